import PyProof.Rows.All
import Wide.All
import OpenK.AllK
import Wide.FinOn
import HandS.ForMost
import HandS.TupAny
import HandS.Wide
import HandS.WideBits
import HandS.Deep
import HandS.TupLe
import HandS.Flow
import HandS.IsInst
import HandS.SortInts
import HandS.TupLen
import HandS.Comp
import HandS.Iter
import HandS.Zip
import HandS.List
import HandS.Dict
import HandS.Style
import HandS.Words
import HandS.Call
import HandS.SetFor
import HandS.Strs
import HandS.SortKw
import KE.KSortKey
import PyProof.Rows.RuleN_abs
import HandS.Ends
import HandS.Exc
import HandS.ExcOwn
import HandS.WordsExc
import PyProof.ReprRoads
import HandS.Zip0
import KE.GoesMore
import HandS.More
import PySem.Challenge.RW_everycycle_k20_whole_one_assignment
section
set_option Elab.async false
set_option linter.all false
set_option maxRecDepth 100000
/-! DL, part A: data, owned containers, the state of a body, what a step may do. -/
namespace DL
open PySem L2

/-- data: what a value is worth, whatever the addresses -/
inductive D where
  | non | bl (b : Bool) | int (i : Int) | str (x : Str)
  | tup (xs : List D) | lst (xs : List D) | fz (xs : List D)
  | dk (ks : List Key) (vs : List D) | dt (ks : List (List Key)) (vs : List D)
  | ob (c : Str) (ns : List Str) (vs : List D)

/-- the written part and what the module's names hold -/
structure Kx where
  K : PySem.W.Frag
  mg : Str → Option Value

mutual
inductive Rep (κ : Kx) (F : Hp) : V → D → Prop
  | non : Rep κ F .non .non
  | bl (b : Bool) : Rep κ F (.bl b) (.bl b)
  | int (i : Int) : Rep κ F (.int i) (.int i)
  | str (x : Str) : Rep κ F (.str x) (.str x)
  | tup {a : Addr} {vs : List V} {ds : List D} : F a = some (.tup vs) → Reps κ F vs ds → Rep κ F (.ref a) (.tup ds)
  | lst {a : Addr} {vs : List V} {ds : List D} : F a = some (.lst vs) → Reps κ F vs ds → Rep κ F (.ref a) (.lst ds)
  | fz {a : Addr} {vs : List V} {ds : List D} : SqL κ.K F a vs → Reps κ F vs ds → Rep κ F (.ref a) (.fz ds)
  | dk {a : Addr} {kvs : List (Key × V)} {vs : List D} : F a = some (.dK kvs) → Reps κ F (kvs.map (·.2)) vs → Rep κ F (.ref a) (.dk (kvs.map (·.1)) vs)
  | dt {a : Addr} {kvs : List (List Key × V)} {vs : List D} : F a = some (.dT kvs) → Reps κ F (kvs.map (·.2)) vs → Rep κ F (.ref a) (.dt (kvs.map (·.1)) vs)
  | ob {a C dx : Addr} {c : Str} {fs : List (Str × V)} {vs : List D} : F a = some (.ins C dx fs) → κ.mg c = some (.ref C) → Reps κ F (fs.map (·.2)) vs → Rep κ F (.ref a) (.ob c (fs.map (·.1)) vs)
inductive Reps (κ : Kx) (F : Hp) : List V → List D → Prop
  | nil : Reps κ F [] []
  | cons {v : V} {vs : List V} {d : D} {ds : List D} : Rep κ F v d → Reps κ F vs ds → Reps κ F (v :: vs) (d :: ds)
end

theorem sqT_mono {K : PySem.W.Frag} {F F' : Hp} {a : Addr} {vs : List V} (e : Same F F') (h : SqT K F a vs) : SqT K F' a vs := by
  rcases h with (h | ⟨o, h⟩) | h
  · exact .inl (.inl (e _ _ h))
  · exact .inl (.inr ⟨o, e _ _ h⟩)
  · exact .inr h
mutual
theorem Rep.mono {κ : Kx} {F F' : Hp} (e : Same F F') : ∀ {v : V} {d : D}, Rep κ F v d → Rep κ F' v d
  | _, _, .non => .non
  | _, _, .bl b => .bl b
  | _, _, .int i => .int i
  | _, _, .str x => .str x
  | _, _, .tup h r => .tup (e _ _ h) (Reps.mono e r)
  | _, _, .lst h r => .lst (e _ _ h) (Reps.mono e r)
  | _, _, .fz h r => .fz (e.seq h) (Reps.mono e r)
  | _, _, .dk h r => .dk (e _ _ h) (Reps.mono e r)
  | _, _, .dt h r => .dt (e _ _ h) (Reps.mono e r)
  | _, _, .ob h m r => .ob (e _ _ h) m (Reps.mono e r)
theorem Reps.mono {κ : Kx} {F F' : Hp} (e : Same F F') : ∀ {vs : List V} {ds : List D}, Reps κ F vs ds → Reps κ F' vs ds
  | _, _, .nil => .nil
  | _, _, .cons h r => .cons (Rep.mono e h) (Reps.mono e r)
end
theorem Reps.length {κ : Kx} {F : Hp} : ∀ {vs : List V} {ds : List D}, Reps κ F vs ds → vs.length = ds.length
  | _, _, .nil => rfl
  | _, _, .cons _ r => by simp [Reps.length r]
theorem Reps.get {κ : Kx} {F : Hp} : ∀ {vs : List V} {ds : List D} (i : Nat) {d : D}, Reps κ F vs ds → ds[i]? = some d → ∃ v, vs[i]? = some v ∧ Rep κ F v d
  | _, _, _, _, .nil, e => by simp at e
  | _, _, 0, _, .cons h _, e => by simp at e; subst e; exact ⟨_, rfl, h⟩
  | _, _, i + 1, _, .cons _ r, e => by
    obtain ⟨v, h1, h2⟩ := Reps.get i r (by simpa using e)
    exact ⟨v, by simpa using h1, h2⟩
theorem Reps.getV {κ : Kx} {F : Hp} {vs : List V} {ds : List D} (i : Nat) {v : V} (r : Reps κ F vs ds) (e : vs[i]? = some v) : ∃ d, ds[i]? = some d ∧ Rep κ F v d := by
  have hl := r.length
  have hi : i < vs.length := by
    rcases Nat.lt_or_ge i vs.length with h | h
    · exact h
    · rw [List.getElem?_eq_none h] at e; cases e
  have hd : ds[i]? = some (ds[i]'(by omega)) := List.getElem?_eq_getElem (by omega)
  obtain ⟨v', h1, h2⟩ := r.get i hd
  rw [e] at h1; cases h1
  exact ⟨_, hd, h2⟩
theorem Reps.append {κ : Kx} {F : Hp} : ∀ {vs ws : List V} {ds es : List D}, Reps κ F vs ds → Reps κ F ws es → Reps κ F (vs ++ ws) (ds ++ es)
  | _, _, _, _, .nil, s => s
  | _, _, _, _, .cons h r, s => .cons h (Reps.append r s)
theorem Reps.take {κ : Kx} {F : Hp} : ∀ {vs : List V} {ds : List D} (n : Nat), Reps κ F vs ds → Reps κ F (vs.take n) (ds.take n)
  | _, _, 0, _ => .nil
  | _, _, _ + 1, .nil => .nil
  | _, _, n + 1, .cons h r => .cons h (Reps.take n r)
theorem Reps.drop {κ : Kx} {F : Hp} : ∀ {vs : List V} {ds : List D} (n : Nat), Reps κ F vs ds → Reps κ F (vs.drop n) (ds.drop n)
  | _, _, 0, r => r
  | _, _, _ + 1, .nil => .nil
  | _, _, n + 1, .cons _ r => Reps.drop n r
theorem Reps.set {κ : Kx} {F : Hp} {v : V} {d : D} (h : Rep κ F v d) : ∀ {vs : List V} {ds : List D} (i : Nat), Reps κ F vs ds → Reps κ F (vs.set i v) (ds.set i d)
  | _, _, _, .nil => .nil
  | _, _, 0, .cons _ r => .cons h r
  | _, _, i + 1, .cons q r => .cons q (Reps.set h i r)
theorem Reps.rev {κ : Kx} {F : Hp} {vs : List V} {ds : List D} (h : Reps κ F vs ds) : Reps κ F vs.reverse ds.reverse := by
  induction h using Reps.rec (motive_1 := fun _ _ _ => True) with
  | nil => exact .nil
  | cons h r _ ih => rw [List.reverse_cons, List.reverse_cons]; exact ih.append (.cons h .nil)
  | _ => trivial
theorem Reps.dropLast {κ : Kx} {F : Hp} {vs : List V} {ds : List D} (h : Reps κ F vs ds) : Reps κ F vs.dropLast ds.dropLast := by
  rw [List.dropLast_eq_take, List.dropLast_eq_take, h.length]
  exact h.take _

/-! ### owned containers -/
inductive Ct where
  | lst (ds : List D) | dk (ks : List Key) (vs : List D) | dt (ks : List (List Key)) (vs : List D)
inductive Fd where
  | sh (d : D) | ct (c : Ct)
/-- a record's head: an instance of a class, a dict -/
inductive Hd where
  | ob (c : Str) (ns : List Str) | dk (ks : List Key)
/-- what a slot holds -/
inductive O where
  | fd (f : Fd) | rc (h : Hd) (fs : List Fd)
abbrev O.sh (d : D) : O := .fd (.sh d)
abbrev O.lst (ds : List D) : O := .fd (.ct (.lst ds))
def Ct.toD : Ct → D
  | .lst ds => .lst ds
  | .dk ks vs => .dk ks vs
  | .dt ks vs => .dt ks vs
def Fd.toD : Fd → D
  | .sh d => d
  | .ct c => c.toD
def O.toD : O → D
  | .fd f => f.toD
  | .rc (.ob c ns) fs => .ob c ns (fs.map Fd.toD)
  | .rc (.dk ks) fs => .dk ks (fs.map Fd.toD)
def OwnC (κ : Kx) (F H : Hp) : Ct → Addr → Prop
  | .lst ds, a => ∃ vs, H a = some (.lst vs) ∧ Reps κ F vs ds
  | .dk ks ds, a => ∃ kvs, H a = some (.dK kvs) ∧ kvs.map (·.1) = ks ∧ Reps κ F (kvs.map (·.2)) ds
  | .dt ks ds, a => ∃ kvs, H a = some (.dT kvs) ∧ kvs.map (·.1) = ks ∧ Reps κ F (kvs.map (·.2)) ds
inductive OwnF (κ : Kx) (F H : Hp) : Fd → V → List Addr → Prop
  | sh {d : D} {v : V} : Rep κ F v d → OwnF κ F H (.sh d) v []
  | ct {c : Ct} {a : Addr} : OwnC κ F H c a → OwnF κ F H (.ct c) (.ref a) [a]
inductive OwnFs (κ : Kx) (F H : Hp) : List Fd → List V → List Addr → Prop
  | nil : OwnFs κ F H [] [] []
  | cons {f : Fd} {v : V} {S : List Addr} {fs : List Fd} {vs : List V} {T : List Addr} : OwnF κ F H f v S → OwnFs κ F H fs vs T → OwnFs κ F H (f :: fs) (v :: vs) (S ++ T)
inductive Own (κ : Kx) (F H : Hp) : O → V → List Addr → Prop
  | fd {f : Fd} {v : V} {S : List Addr} : OwnF κ F H f v S → Own κ F H (.fd f) v S
  | ob {a C dx : Addr} {c : Str} {fs : List (Str × V)} {gs : List Fd} {T : List Addr} : H a = some (.ins C dx fs) → κ.mg c = some (.ref C) → OwnFs κ F H gs (fs.map (·.2)) T →
      Own κ F H (.rc (.ob c (fs.map (·.1))) gs) (.ref a) (a :: T)
  | dk {a : Addr} {kvs : List (Key × V)} {gs : List Fd} {T : List Addr} : H a = some (.dK kvs) → OwnFs κ F H gs (kvs.map (·.2)) T →
      Own κ F H (.rc (.dk (kvs.map (·.1))) gs) (.ref a) (a :: T)

/-- what is owned stands as long as the owned cells stand and what is shared grows -/
theorem OwnC.mono {κ : Kx} {F F' H H' : Hp} {c : Ct} {a : Addr} (e : Same F F') (h : ∀ o, H a = some o → H' a = some o) (x : OwnC κ F H c a) : OwnC κ F' H' c a := by
  cases c with
  | lst ds => obtain ⟨vs, h1, h2⟩ := x; exact ⟨vs, h _ h1, h2.mono e⟩
  | dk ks ds => obtain ⟨vs, h1, h3, h2⟩ := x; exact ⟨vs, h _ h1, h3, h2.mono e⟩
  | dt ks ds => obtain ⟨vs, h1, h3, h2⟩ := x; exact ⟨vs, h _ h1, h3, h2.mono e⟩
theorem OwnF.mono {κ : Kx} {F F' H H' : Hp} {f : Fd} {v : V} {S : List Addr} (e : Same F F') (h : ∀ b ∈ S, ∀ o, H b = some o → H' b = some o) (x : OwnF κ F H f v S) : OwnF κ F' H' f v S := by
  cases x with
  | sh r => exact .sh (r.mono e)
  | ct r => exact .ct (r.mono e (h _ (by simp)))
theorem OwnFs.mono {κ : Kx} {F F' H H' : Hp} (e : Same F F') {fs : List Fd} {vs : List V} {S : List Addr} (x : OwnFs κ F H fs vs S) (h : ∀ b ∈ S, ∀ o, H b = some o → H' b = some o) : OwnFs κ F' H' fs vs S := by
  induction x with
  | nil => exact .nil
  | cons x _ ih => exact .cons (x.mono e fun b hb => h b (List.mem_append_left _ hb)) (ih fun b hb => h b (List.mem_append_right _ hb))
theorem Own.mono {κ : Kx} {F F' H H' : Hp} {o : O} {v : V} {S : List Addr} (e : Same F F') (h : ∀ b ∈ S, ∀ o, H b = some o → H' b = some o) (x : Own κ F H o v S) : Own κ F' H' o v S := by
  cases x with
  | fd r => exact .fd (r.mono e h)
  | ob r m q => exact .ob (h _ List.mem_cons_self _ r) m (q.mono e fun b hb => h b (List.mem_cons_of_mem _ hb))
  | dk r q => exact .dk (h _ List.mem_cons_self _ r) (q.mono e fun b hb => h b (List.mem_cons_of_mem _ hb))
/-- no tuple -/
def NotT : HO → Bool
  | .tup _ => false
  | .frz _ (.tup _) => false
  | _ => true
theorem NotT.ne {o : HO} (h : NotT o = true) (xs : List V) : o ≠ .tup xs := by
  rintro rfl; cases h
theorem NotT.nf {o : HO} (h : NotT o = true) (ob : Obj) (xs : List V) : o ≠ .frz ob (.tup xs) := by
  rintro rfl; cases h
/-- the owned cells stand in the heap -/
theorem OwnC.there {κ : Kx} {F H : Hp} {c : Ct} {a : Addr} (x : OwnC κ F H c a) : ∃ o, H a = some o ∧ NotT o = true := by
  cases c with
  | lst ds => obtain ⟨vs, h1, _⟩ := x; exact ⟨_, h1, rfl⟩
  | dk ks ds => obtain ⟨vs, h1, _⟩ := x; exact ⟨_, h1, rfl⟩
  | dt ks ds => obtain ⟨vs, h1, _⟩ := x; exact ⟨_, h1, rfl⟩
theorem OwnFs.there {κ : Kx} {F H : Hp} {fs : List Fd} {vs : List V} {S : List Addr} (x : OwnFs κ F H fs vs S) : ∀ b ∈ S, ∃ o, H b = some o ∧ NotT o = true := by
  induction x with
  | nil => intro b hb; simp at hb
  | cons x _ ih =>
    intro b hb
    rcases List.mem_append.mp hb with hb | hb
    · cases x with
      | sh _ => simp at hb
      | ct r =>
        rw [List.mem_singleton.mp hb]
        exact OwnC.there r
    · exact ih b hb
theorem Own.there {κ : Kx} {F H : Hp} {o : O} {v : V} {S : List Addr} (x : Own κ F H o v S) : ∀ b ∈ S, ∃ o, H b = some o ∧ NotT o = true := by
  cases x with
  | fd r =>
    cases r with
    | sh _ => intro b hb; simp at hb
    | ct r =>
      intro b hb
      rw [List.mem_singleton.mp hb]
      exact OwnC.there r
  | ob r m q =>
    intro b hb
    rcases List.mem_cons.mp hb with rfl | hb
    · exact ⟨_, r, rfl⟩
    · exact q.there b hb
  | dk r q =>
    intro b hb
    rcases List.mem_cons.mp hb with rfl | hb
    · exact ⟨_, r, rfl⟩
    · exact q.there b hb
/-- frozen: what was owned, as data -/
theorem OwnC.rep {κ : Kx} {F F' H : Hp} {c : Ct} {a : Addr} (x : OwnC κ F H c a) (e : Same F F') (h : F' a = H a) : Rep κ F' (.ref a) c.toD := by
  cases c with
  | lst ds => obtain ⟨vs, h1, h2⟩ := x; exact .lst (h.trans h1) (h2.mono e)
  | dk ks ds => obtain ⟨vs, h1, rfl, h2⟩ := x; exact .dk (h.trans h1) (h2.mono e)
  | dt ks ds => obtain ⟨vs, h1, rfl, h2⟩ := x; exact .dt (h.trans h1) (h2.mono e)
theorem OwnF.rep {κ : Kx} {F F' H : Hp} {f : Fd} {v : V} {S : List Addr} (x : OwnF κ F H f v S) (e : Same F F') (h : ∀ b ∈ S, F' b = H b) : Rep κ F' v f.toD := by
  cases x with
  | sh r => exact r.mono e
  | ct r => exact r.rep e (h _ (by simp))
theorem OwnFs.rep {κ : Kx} {F F' H : Hp} {fs : List Fd} {vs : List V} {S : List Addr} (x : OwnFs κ F H fs vs S) (e : Same F F') (h : ∀ b ∈ S, F' b = H b) : Reps κ F' vs (fs.map Fd.toD) := by
  induction x with
  | nil => exact .nil
  | cons x _ ih => exact .cons (x.rep e fun b hb => h b (List.mem_append_left _ hb)) (ih fun b hb => h b (List.mem_append_right _ hb))
theorem Own.rep {κ : Kx} {F F' H : Hp} {o : O} {v : V} {S : List Addr} (x : Own κ F H o v S) (e : Same F F') (h : ∀ b ∈ S, F' b = H b) : Rep κ F' v o.toD := by
  cases x with
  | fd r => exact r.rep e h
  | ob r m q => exact .ob ((h _ List.mem_cons_self).trans r) m (q.rep e fun b hb => h b (List.mem_cons_of_mem _ hb))
  | dk r q => exact .dk ((h _ List.mem_cons_self).trans r) (q.rep e fun b hb => h b (List.mem_cons_of_mem _ hb))
/-- to be read: over the whole heap -/
theorem Own.repH {κ : Kx} {F H : Hp} {o : O} {v : V} {S : List Addr} (x : Own κ F H o v S) (e : Same F H) : Rep κ H v o.toD := x.rep e fun _ _ => rfl

/-! ### the state of a body -/
abbrev Env := List (Option O)
inductive Ix where
  | s (i : Nat) | t (k : Nat)
  deriving DecidableEq
def atO (ρ : Env) (τ : List O) : Ix → Option O
  | .s i => (ρ[i]?).join
  | .t k => τ[k]?
def atV (σ : L2.St) (υ : List V) : Ix → Option V
  | .s i => (σ[i]?).join
  | .t k => υ[k]?
abbrev Fp := Ix → List Addr
structure G (κ : Kx) (A : Fp) (F H : Hp) (ρ : Env) (σ : L2.St) (τ : List O) (υ : List V) : Prop where
  len : ρ.length = σ.length
  lent : τ.length = υ.length
  own : ∀ x o, atO ρ τ x = some o → ∃ v, atV σ υ x = some v ∧ Own κ F H o v (A x)
  nd : ∀ x, (A x).Nodup
  dj : ∀ x y b, x ≠ y → b ∈ A x → b ∉ A y
  ff : ∀ x b, b ∈ A x → F b = none
  ft : ∀ x b, b ∈ A x → ∃ o, H b = some o ∧ NotT o = true
  fh : Same F H
/-- what a step does to all that stands -/
structure Fr (A : Fp) (F H : Hp) (A' : Fp) (F' H' : Hp) : Prop where
  keep : ∀ b o, H b = some o → (∀ x, b ∉ A x) → H' b = some o
  there : ∀ b, H b ≠ none → H' b ≠ none
  new : ∀ x b, b ∈ A' x → (∃ y, b ∈ A y) ∨ H b = none
  grow : Same F F'
  fnew : ∀ b, F' b ≠ none → F b ≠ none ∨ H b = none ∨ ∃ y, b ∈ A y
theorem Fr.refl {A : Fp} {F H : Hp} : Fr A F H A F H := ⟨fun _ _ h _ => h, fun _ h => h, fun x _ h => .inl ⟨x, h⟩, Same.refl _, fun _ h => .inl h⟩
theorem Fr.none {A A' : Fp} {F F' H H' : Hp} (x : Fr A F H A' F' H') {b : Addr} (h : H' b = none) : H b = none := by
  cases e : H b with
  | none => rfl
  | some o => exact absurd h (x.there b (by rw [e]; simp))
theorem Fr.trans {A A' A'' : Fp} {F F' F'' H H' H'' : Hp} (x : Fr A F H A' F' H') (y : Fr A' F' H' A'' F'' H'') : Fr A F H A'' F'' H'' where
  keep := fun b o h n => y.keep b o (x.keep b o h n) fun z hz => by
    rcases x.new z b hz with ⟨w, hw⟩ | e
    · exact n w hw
    · rw [h] at e; cases e
  there := fun b h => y.there b (x.there b h)
  new := fun z b h => by
    rcases y.new z b h with ⟨w, hw⟩ | e
    · exact x.new w b hw
    · exact .inr (x.none e)
  grow := x.grow.trans y.grow
  fnew := fun b h => by
    rcases y.fnew b h with e | e | ⟨w, hw⟩
    · exact x.fnew b e
    · exact .inr (.inl (x.none e))
    · rcases x.new w b hw with e | e
      · exact .inr (.inr e)
      · exact .inr (.inl e)
section
variable {κ : Kx} {A : Fp} {F H : Hp} {ρ : Env} {σ : L2.St} {τ : List O} {υ : List V}
theorem G.notin (g : G κ A F H ρ σ τ υ) {b : Addr} (h : H b = none) (x : Ix) : b ∉ A x := fun hb => by
  obtain ⟨o, e, _⟩ := g.ft x b hb
  rw [h] at e; cases e
/-- the heap grows by p, tracked as o, shared -/
theorem G.share (g : G κ A F H ρ σ τ υ) {p : Addr} (o : HO) (h : H p = none) : G κ A (upd F p o) (upd H p o) ρ σ τ υ ∧ Fr A F H A (upd F p o) (upd H p o) := by
  have hF : F p = none := by
    cases e : F p with
    | none => rfl
    | some u => rw [g.fh _ _ e] at h; cases h
  have eF : Same F (upd F p o) := fun b u e => by rw [upd_ne (ne_of_none e hF)]; exact e
  have eH : Same H (upd H p o) := fun b u e => by rw [upd_ne (ne_of_none e h)]; exact e
  refine ⟨⟨g.len, g.lent, fun x u e => ?_, g.nd, g.dj, fun x b hb => ?_, fun x b hb => ?_, fun b u e => ?_⟩, ⟨fun b u e _ => eH b u e, fun b e => ?_, fun x _ hb => .inl ⟨x, hb⟩, eF, fun b e => ?_⟩⟩
  · obtain ⟨v, h1, h2⟩ := g.own x u e
    exact ⟨v, h1, h2.mono eF fun b _ o e => eH b o e⟩
  · have : b ≠ p := fun z => g.notin h x (z ▸ hb)
    rw [upd_ne this]; exact g.ff x b hb
  · obtain ⟨u, e, n⟩ := g.ft x b hb
    exact ⟨u, eH b u e, n⟩
  · by_cases z : b = p
    · subst z; rw [upd_same] at e ⊢; exact e
    · rw [upd_ne z] at e ⊢; exact g.fh b u e
  · cases q : H b with
    | none => exact absurd q e
    | some u => rw [eH b u q]; simp
  · by_cases z : b = p
    · subst z; exact .inr (.inl h)
    · rw [upd_ne z] at e; exact .inl e
end
end DL

end

section
set_option Elab.async false
set_option linter.all false
set_option maxRecDepth 100000
/-! DL, part B: moves of the state; denotations and judgements. -/
namespace DL
open PySem L2

section
variable {κ : Kx} {A A' : Fp} {F F' H H' : Hp} {ρ ρ' : Env} {σ σ' : L2.St} {τ τ' : List O} {υ υ' : List V}

/-- a step that keeps all cells, and whose owned cells are among the old ones -/
theorem Fr.sub (h : ∀ x b, b ∈ A' x → ∃ y, b ∈ A y) : Fr A F H A' F H := ⟨fun _ _ e _ => e, fun _ e => e, fun x b hb => .inl (h x b hb), Same.refl _, fun _ e => .inl e⟩

/-- the owned things stand at other places -/
theorem G.re (g : G κ A F H ρ σ τ υ) (f : Ix → Option Ix) (len : ρ'.length = σ'.length) (lent : τ'.length = υ'.length)
    (hA : ∀ x, A' x = match f x with | some y => A y | none => []) (inj : ∀ x x' y, f x = some y → f x' = some y → x = x')
    (own : ∀ x o, atO ρ' τ' x = some o → ∃ y, f x = some y ∧ atO ρ τ y = some o ∧ atV σ' υ' x = atV σ υ y) : G κ A' F H ρ' σ' τ' υ' ∧ Fr A F H A' F H := by
  have sub : ∀ x b, b ∈ A' x → ∃ y, f x = some y ∧ b ∈ A y := fun x b hb => by
    rw [hA] at hb
    cases e : f x with
    | none => rw [e] at hb; simp at hb
    | some y => rw [e] at hb; exact ⟨y, rfl, hb⟩
  refine ⟨⟨len, lent, fun x o e => ?_, fun x => ?_, fun x y b n hx hy => ?_, fun x b hb => ?_, fun x b hb => ?_, g.fh⟩, Fr.sub fun x b hb => let ⟨y, _, h⟩ := sub x b hb; ⟨y, h⟩⟩
  · obtain ⟨y, h1, h2, h3⟩ := own x o e
    obtain ⟨v, h4, h5⟩ := g.own y o h2
    refine ⟨v, h3.trans h4, ?_⟩
    rw [hA, h1]
    exact h5
  · rw [hA]
    cases f x with
    | none => exact List.nodup_nil
    | some y => exact g.nd y
  · obtain ⟨x', ex, hx⟩ := sub x b hx
    obtain ⟨y', ey, hy⟩ := sub y b hy
    refine g.dj x' y' b (fun z => ?_) hx hy
    subst z
    exact n (inj x y x' ex ey)
  · obtain ⟨y, _, h⟩ := sub x b hb
    exact g.ff y b h
  · obtain ⟨y, _, h⟩ := sub x b hb
    exact g.ft y b h

theorem G.ltT (g : G κ A F H ρ σ τ υ) {k : Nat} (h : k < τ.length) : k < υ.length := g.lent ▸ h
theorem atO_top {r : O} : atO ρ (τ ++ [r]) (.t τ.length) = some r := by simp [atO]
theorem atO_app {r : O} {x : Ix} (h : x ≠ .t τ.length) : atO ρ (τ ++ [r]) x = atO ρ τ x := by
  cases x with
  | s i => rfl
  | t k =>
    have hk : k ≠ τ.length := fun z => h (by rw [z])
    show (τ ++ [r])[k]? = τ[k]?
    rcases Nat.lt_or_gt_of_ne hk with q | q
    · rw [List.getElem?_append_left q]
    · rw [List.getElem?_eq_none (by simp; omega), List.getElem?_eq_none (by omega)]
theorem atV_app {v : V} {x : Ix} (h : x ≠ .t υ.length) : atV σ (υ ++ [v]) x = atV σ υ x := by
  cases x with
  | s i => rfl
  | t k =>
    have hk : k ≠ υ.length := fun z => h (by rw [z])
    show (υ ++ [v])[k]? = υ[k]?
    rcases Nat.lt_or_gt_of_ne hk with q | q
    · rw [List.getElem?_append_left q]
    · rw [List.getElem?_eq_none (by simp; omega), List.getElem?_eq_none (by omega)]
theorem atV_top {v : V} : atV σ (υ ++ [v]) (.t υ.length) = some v := by simp [atV]
def upA (A : Fp) (x : Ix) (S : List Addr) : Fp := fun y => if y = x then S else A y
theorem upA_same {x : Ix} {S : List Addr} : upA A x S x = S := if_pos rfl
theorem upA_ne {x y : Ix} {S : List Addr} (h : y ≠ x) : upA A x S y = A y := if_neg h

/-- a shared value on the stack -/
theorem G.pushSh (g : G κ A F H ρ σ τ υ) {v : V} {d : D} (r : Rep κ F v d) : G κ (upA A (.t τ.length) []) F H ρ σ (τ ++ [.sh d]) (υ ++ [v]) ∧ Fr A F H (upA A (.t τ.length) []) F H := by
  have sub : ∀ x b, b ∈ upA A (.t τ.length) [] x → b ∈ A x ∧ x ≠ .t τ.length := fun x b hb => by
    by_cases e : x = .t τ.length
    · subst e; rw [upA_same] at hb; simp at hb
    · rw [upA_ne e] at hb; exact ⟨hb, e⟩
  refine ⟨⟨g.len, by simp [g.lent], fun x o e => ?_, fun x => ?_, fun x y b n hx hy => g.dj x y b n (sub x b hx).1 (sub y b hy).1, fun x b hb => g.ff x b (sub x b hb).1, fun x b hb => g.ft x b (sub x b hb).1, g.fh⟩, Fr.sub fun x b hb => ⟨x, (sub x b hb).1⟩⟩
  · by_cases z : x = .t τ.length
    · subst z
      rw [atO_top] at e; cases e
      rw [g.lent]
      refine ⟨v, atV_top, ?_⟩
      rw [upA, if_pos rfl]
      exact .fd (.sh r)
    · rw [atO_app z] at e
      obtain ⟨u, h1, h2⟩ := g.own x o e
      refine ⟨u, ?_, by rw [upA_ne z]; exact h2⟩
      rw [atV_app (by rw [← g.lent]; exact z)]
      exact h1
  · by_cases z : x = .t τ.length
    · subst z; rw [upA_same]; exact List.nodup_nil
    · rw [upA_ne z]; exact g.nd x
/-- a new owned thing on the stack -/
theorem G.pushNew (g : G κ A F H ρ σ τ υ) {p : Addr} {o : HO} {r : O} (h : H p = none) (hn : NotT o = true) (w : Own κ F (upd H p o) r (.ref p) [p]) :
    G κ (upA A (.t τ.length) [p]) F (upd H p o) ρ σ (τ ++ [r]) (υ ++ [.ref p]) ∧ Fr A F H (upA A (.t τ.length) [p]) F (upd H p o) := by
  have hF : F p = none := by
    cases e : F p with
    | none => rfl
    | some u => rw [g.fh _ _ e] at h; cases h
  have eH : Same H (upd H p o) := fun b u e => by rw [upd_ne (ne_of_none e h)]; exact e
  have sub : ∀ x b, b ∈ upA A (.t τ.length) [p] x → (x = .t τ.length ∧ b = p) ∨ (b ∈ A x ∧ x ≠ .t τ.length ∧ b ≠ p) := fun x b hb => by
    by_cases e : x = .t τ.length
    · subst e; rw [upA_same] at hb; exact .inl ⟨rfl, List.mem_singleton.mp hb⟩
    · rw [upA_ne e] at hb; exact .inr ⟨hb, e, fun z => g.notin h x (z ▸ hb)⟩
  refine ⟨⟨g.len, by simp [g.lent], fun x u e => ?_, fun x => ?_, fun x y b n hx hy => ?_, fun x b hb => ?_, fun x b hb => ?_, fun b u e => eH b u (g.fh b u e)⟩,
    ⟨fun b u e _ => eH b u e, fun b e => ?_, fun x b hb => ?_, Same.refl _, fun b e => .inl e⟩⟩
  · by_cases z : x = .t τ.length
    · subst z
      rw [atO_top] at e; cases e
      rw [g.lent]
      refine ⟨.ref p, atV_top, ?_⟩
      rw [upA, if_pos rfl]
      exact w
    · rw [atO_app z] at e
      obtain ⟨v, h1, h2⟩ := g.own x u e
      refine ⟨v, ?_, by rw [upA_ne z]; exact h2.mono (Same.refl _) fun b _ o e => eH b o e⟩
      rw [atV_app (by rw [← g.lent]; exact z)]
      exact h1
  · by_cases z : x = .t τ.length
    · subst z; rw [upA_same]; simp
    · rw [upA_ne z]; exact g.nd x
  · rcases sub x b hx with ⟨h1, h2⟩ | ⟨h1, h2, h3⟩
    · rcases sub y b hy with ⟨h4, _⟩ | ⟨_, _, h4⟩
      · exact n (h1.trans h4.symm)
      · exact h4 h2
    · rcases sub y b hy with ⟨_, h4⟩ | ⟨h4, _, _⟩
      · exact h3 h4
      · exact g.dj x y b n h1 h4
  · rcases sub x b hb with ⟨_, rfl⟩ | ⟨h1, _, _⟩
    · exact hF
    · exact g.ff x b h1
  · rcases sub x b hb with ⟨_, rfl⟩ | ⟨h1, _, _⟩
    · exact ⟨o, upd_same, hn⟩
    · obtain ⟨u, e, q⟩ := g.ft x b h1
      exact ⟨u, eH b u e, q⟩
  · cases q : H b with
    | none => exact absurd q e
    | some u => rw [eH b u q]; simp
  · rcases sub x b hb with ⟨_, rfl⟩ | ⟨h1, _, _⟩
    · exact .inr h
    · exact .inl ⟨x, h1⟩
/-- the top of the stack, laid aside -/
theorem G.pop {r : O} {v : V} (g : G κ A F H ρ σ (τ ++ [r]) (υ ++ [v])) : G κ (upA A (.t τ.length) []) F H ρ σ τ υ ∧ Own κ F H r v (A (.t τ.length)) ∧ Fr A F H (upA A (.t τ.length) []) F H := by
  have hl : τ.length = υ.length := by have := g.lent; simp at this; exact this
  have h := g.re (A' := upA A (.t τ.length) []) (ρ' := ρ) (σ' := σ) (τ' := τ) (υ' := υ) (fun x => if x = .t τ.length then none else some x) g.len hl (fun x => by
      by_cases z : x = .t τ.length
      · simp [upA, z]
      · simp [upA, z]) (fun x x' y h1 h2 => by
      split at h1
      · cases h1
      · split at h2
        · cases h2
        · cases h1; cases h2; rfl) (fun x o e => by
      have z : x ≠ .t τ.length := fun z => by subst z; simp [atO] at e
      refine ⟨x, if_neg z, (atO_app z).trans e, ?_⟩
      rw [atV_app (by rw [← hl]; exact z)])
  refine ⟨h.1, ?_, h.2⟩
  obtain ⟨u, h1, h2⟩ := g.own (.t τ.length) r atO_top
  rw [hl, atV_top] at h1
  cases h1
  exact h2
/-- the top of the stack, stored -/
theorem G.assign {r : O} {v : V} {i : Nat} (g : G κ A F H ρ σ (τ ++ [r]) (υ ++ [v])) : 
    G κ (upA (upA A (.s i) (A (.t τ.length))) (.t τ.length) []) F H (ρ.set i (some r)) (σ.set i (some v)) τ υ ∧ Fr A F H (upA (upA A (.s i) (A (.t τ.length))) (.t τ.length) []) F H := by
  have hl : τ.length = υ.length := by have := g.lent; simp at this; exact this
  refine g.re (fun x => if x = .t τ.length then none else if x = .s i then some (.t τ.length) else some x) (by simp [g.len]) hl (fun x => ?_) (fun x x' y h1 h2 => ?_) (fun x o e => ?_)
  · by_cases z : x = .t τ.length
    · simp [upA, z]
    · by_cases w : x = .s i
      · simp [upA, w]
      · simp [upA, z, w]
  · by_cases a : x = .t τ.length
    · rw [if_pos a] at h1; cases h1
    · rw [if_neg a] at h1
      by_cases a' : x' = .t τ.length
      · rw [if_pos a'] at h2; cases h2
      · rw [if_neg a'] at h2
        by_cases b : x = .s i
        · rw [if_pos b] at h1; cases h1
          by_cases b' : x' = .s i
          · rw [b, b']
          · rw [if_neg b'] at h2; cases h2; exact absurd rfl a'
        · rw [if_neg b] at h1; cases h1
          by_cases b' : x' = .s i
          · rw [if_pos b'] at h2; cases h2; exact absurd rfl a
          · rw [if_neg b'] at h2; cases h2; rfl
  · have z : x ≠ .t τ.length := fun z => by subst z; simp [atO] at e
    by_cases w : x = .s i
    · subst w
      have hi : i < ρ.length := by
        rcases Nat.lt_or_ge i ρ.length with q | q
        · exact q
        · simp [atO, List.getElem?_eq_none (show (ρ.set i (some r)).length ≤ i by simpa using q)] at e
      have hi' : i < σ.length := g.len ▸ hi
      refine ⟨.t τ.length, by rw [if_neg z, if_pos rfl], ?_, ?_⟩
      · simp [atO, hi] at e
        subst e
        exact atO_top
      · rw [hl, atV_top]
        simp [atV, hi']
    · refine ⟨x, by rw [if_neg z, if_neg w], ?_, ?_⟩
      · rw [atO_app z]
        cases x with
        | t k => exact e
        | s j =>
          have hj : j ≠ i := fun q => w (by rw [q])
          simp only [atO] at e ⊢
          rw [List.getElem?_set_ne (Ne.symm hj)] at e
          exact e
      · rw [atV_app (by rw [← hl]; exact z)]
        cases x with
        | t k => rfl
        | s j =>
          have hj : j ≠ i := fun q => w (by rw [q])
          simp only [atV]
          rw [List.getElem?_set_ne (Ne.symm hj)]
/-- a slot's thing moved onto the stack -/
theorem G.move {o : O} {v : V} {i : Nat} (g : G κ A F H ρ σ τ υ) (h : ρ[i]? = some (some o)) (hv : σ[i]? = some (some v)) :
    G κ (upA (upA A (.t τ.length) (A (.s i))) (.s i) []) F H (ρ.set i none) σ (τ ++ [o]) (υ ++ [v]) ∧ Fr A F H (upA (upA A (.t τ.length) (A (.s i))) (.s i) []) F H := by
  refine g.re (fun x => if x = .s i then none else if x = .t τ.length then some (.s i) else some x) (by simp [g.len]) (by simp [g.lent]) (fun x => ?_) (fun x x' y h1 h2 => ?_) (fun x u e => ?_)
  · by_cases z : x = .s i
    · simp [upA, z]
    · by_cases w : x = .t τ.length
      · simp [upA, w]
      · simp [upA, z, w]
  · by_cases a : x = .s i
    · rw [if_pos a] at h1; cases h1
    · rw [if_neg a] at h1
      by_cases a' : x' = .s i
      · rw [if_pos a'] at h2; cases h2
      · rw [if_neg a'] at h2
        by_cases b : x = .t τ.length
        · rw [if_pos b] at h1; cases h1
          by_cases b' : x' = .t τ.length
          · rw [b, b']
          · rw [if_neg b'] at h2; cases h2; exact absurd rfl a'
        · rw [if_neg b] at h1; cases h1
          by_cases b' : x' = .t τ.length
          · rw [if_pos b'] at h2; cases h2; exact absurd rfl a
          · rw [if_neg b'] at h2; cases h2; rfl
  · by_cases z : x = .s i
    · subst z
      simp only [atO] at e
      rcases Nat.lt_or_ge i ρ.length with q | q
      · rw [List.getElem?_set_self q] at e; cases e
      · rw [List.getElem?_eq_none (by simpa using q)] at e; cases e
    · by_cases w : x = .t τ.length
      · subst w
        rw [atO_top] at e; cases e
        refine ⟨.s i, by rw [if_neg z, if_pos rfl], by simp [atO, h], ?_⟩
        rw [g.lent, atV_top]
        simp [atV, hv]
      · rw [atO_app w] at e
        refine ⟨x, by rw [if_neg z, if_neg w], ?_, by rw [atV_app (by rw [← g.lent]; exact w)]⟩
        cases x with
        | t k => exact e
        | s j =>
          have hj : j ≠ i := fun q => z (by rw [q])
          simp only [atO] at e ⊢
          rw [List.getElem?_set_ne (Ne.symm hj)] at e
          exact e
/-- what a slot owns is frozen: from then on it is shared data -/
theorem G.freeze {o : O} {i : Nat} (g : G κ A F H ρ σ τ υ) (h : ρ[i]? = some (some o)) :
    ∃ F', G κ (upA A (.s i) []) F' H (ρ.set i (some (.sh o.toD))) σ τ υ ∧ Fr A F H (upA A (.s i) []) F' H ∧ ∃ v, σ[i]? = some (some v) ∧ Rep κ F' v o.toD := by
  obtain ⟨v, h1, h2⟩ := g.own (.s i) o (by simp [atO, h])
  have hv : σ[i]? = some (some v) := by
    cases e : σ[i]? with
    | none => simp [atV, e] at h1
    | some u => simp [atV, e] at h1; rw [h1]
  let F' : Hp := fun b => if b ∈ A (.s i) then H b else F b
  have eF : Same F F' := fun b u e => by
    show (if b ∈ A (.s i) then H b else F b) = some u
    by_cases z : b ∈ A (.s i)
    · rw [g.ff _ b z] at e; cases e
    · rw [if_neg z]; exact e
  have rep : Rep κ F' v o.toD := h2.rep eF fun b hb => if_pos hb
  have sub : ∀ x b, b ∈ upA A (.s i) [] x → b ∈ A x ∧ x ≠ .s i := fun x b hb => by
    by_cases e : x = .s i
    · subst e; rw [upA_same] at hb; simp at hb
    · rw [upA_ne e] at hb; exact ⟨hb, e⟩
  refine ⟨F', ⟨by simp [g.len], g.lent, fun x u e => ?_, fun x => ?_, fun x y b n hx hy => g.dj x y b n (sub x b hx).1 (sub y b hy).1, fun x b hb => ?_, fun x b hb => g.ft x b (sub x b hb).1, fun b u e => ?_⟩,
    ⟨fun _ _ e _ => e, fun _ e => e, fun x b hb => .inl ⟨x, (sub x b hb).1⟩, eF, fun b e => ?_⟩, v, hv, rep⟩
  · by_cases z : x = .s i
    · subst z
      have hi : i < ρ.length := by
        rcases Nat.lt_or_ge i ρ.length with q | q
        · exact q
        · rw [List.getElem?_eq_none q] at h; cases h
      simp [atO, hi] at e
      subst e
      refine ⟨v, h1, ?_⟩
      rw [upA_same]
      exact .fd (.sh rep)
    · have e' : atO ρ τ x = some u := by
        cases x with
        | t k => exact e
        | s j =>
          have hj : j ≠ i := fun q => z (by rw [q])
          simp only [atO] at e ⊢
          rw [List.getElem?_set_ne (Ne.symm hj)] at e
          exact e
      obtain ⟨w, h3, h4⟩ := g.own x u e'
      exact ⟨w, h3, by rw [upA_ne z]; exact h4.mono eF fun _ _ _ q => q⟩
  · by_cases z : x = .s i
    · subst z; rw [upA_same]; exact List.nodup_nil
    · rw [upA_ne z]; exact g.nd x
  · show (if b ∈ A (.s i) then H b else F b) = none
    rw [if_neg (g.dj x (.s i) b (sub x b hb).2 (sub x b hb).1)]
    exact g.ff x b (sub x b hb).1
  · have e : (if b ∈ A (.s i) then H b else F b) = some u := e
    split at e
    · exact e
    · exact g.fh b u e
  · have e : (if b ∈ A (.s i) then H b else F b) ≠ none := e
    by_cases z : b ∈ A (.s i)
    · exact .inr (.inr ⟨_, z⟩)
    · rw [if_neg z] at e; exact .inl e
/-- the top of the stack is frozen -/
theorem G.freezeT {o : O} {v : V} (g : G κ A F H ρ σ (τ ++ [o]) (υ ++ [v])) :
    ∃ F', G κ (upA A (.t τ.length) []) F' H ρ σ (τ ++ [.sh o.toD]) (υ ++ [v]) ∧ Fr A F H (upA A (.t τ.length) []) F' H ∧ Rep κ F' v o.toD := by
  obtain ⟨g1, w, f1⟩ := g.pop
  let B := A (.t τ.length)
  let F' : Hp := fun b => if b ∈ B then H b else F b
  have eF : Same F F' := fun b u e => by
    show (if b ∈ B then H b else F b) = some u
    by_cases z : b ∈ B
    · rw [g.ff _ b z] at e; cases e
    · rw [if_neg z]; exact e
  have rep : Rep κ F' v o.toD := w.rep eF fun b hb => if_pos hb
  have sub : ∀ x b, b ∈ upA A (.t τ.length) [] x → b ∈ A x ∧ x ≠ .t τ.length := fun x b hb => by
    by_cases e : x = .t τ.length
    · subst e; rw [upA_same] at hb; simp at hb
    · rw [upA_ne e] at hb; exact ⟨hb, e⟩
  have g2 : G κ (upA A (.t τ.length) []) F' H ρ σ τ υ := ⟨g1.len, g1.lent, fun x u e => let ⟨w, h3, h4⟩ := g1.own x u e; ⟨w, h3, h4.mono eF fun _ _ _ q => q⟩, g1.nd, g1.dj, fun x b hb => by
      show (if b ∈ B then H b else F b) = none
      rw [if_neg (g.dj x (.t τ.length) b (sub x b hb).2 (sub x b hb).1)]
      exact g.ff x b (sub x b hb).1, g1.ft, fun b u e => by
      have e : (if b ∈ B then H b else F b) = some u := e
      split at e
      · exact e
      · exact g.fh b u e⟩
  have f2 : Fr A F H (upA A (.t τ.length) []) F' H := ⟨fun _ _ e _ => e, fun _ e => e, fun x b hb => .inl ⟨x, (sub x b hb).1⟩, eF, fun b e => by
    have e : (if b ∈ B then H b else F b) ≠ none := e
    by_cases z : b ∈ B
    · exact .inr (.inr ⟨_, z⟩)
    · rw [if_neg z] at e; exact .inl e⟩
  have g3 := g2.pushSh rep
  refine ⟨F', ?_, ?_, rep⟩
  · have : upA (upA A (.t τ.length) []) (.t τ.length) [] = upA A (.t τ.length) [] := by
      funext x; unfold upA; split <;> rfl
    rw [this] at g3
    exact g3.1
  · exact f2
/-- what is known of some slots is dropped -/
theorem G.drop (g : G κ A F H ρ σ τ υ) (len : ρ'.length = ρ.length) (h : ∀ (i : Nat) (o : O), ρ'[i]? = some (some o) → ρ[i]? = some (some o)) : G κ A F H ρ' σ τ υ :=
  ⟨len.trans g.len, g.lent, fun x o e => by
    refine g.own x o ?_
    cases x with
    | t k => exact e
    | s i =>
      simp only [atO] at e ⊢
      have := h i o (by cases q : ρ'[i]? with
        | none => rw [q] at e; cases e
        | some z => rw [q] at e; simp at e; rw [e])
      rw [this]; rfl, g.nd, g.dj, g.ff, g.ft, g.fh⟩
end

/-! ### denotations -/
inductive Out (α : Type) where
  | bad | ok (a : α) (ρ : Env) | exc (e : D) (ρ : Env)
abbrev M (α : Type) := Env → Out α
def mBind {α β : Type} (m : M α) (k : α → M β) : M β := fun ρ => match m ρ with
  | .bad => .bad
  | .ok a ρ' => k a ρ'
  | .exc e ρ' => .exc e ρ'
def mPure {α : Type} (a : α) : M α := fun ρ => .ok a ρ
inductive OutS where
  | bad | next (ρ : Env) | ret (r : O) (ρ : Env) | brk (ρ : Env) | cont (ρ : Env) | exc (e : D) (ρ : Env)
abbrev MS := Env → OutS

/-- what a raised exception is worth: its class by name, its own fields -/
def ExRep (κ : Kx) (F H : Hp) (cls : Value) (d : Option Addr) : D → Prop
  | .ob c ns vs => ∃ C, cls = .ref C ∧ κ.mg c = some (.ref C) ∧ ∃ dd fs, d = some dd ∧ H dd = some (.xd fs) ∧ fs.map (·.1) = ns ∧ Reps κ F (fs.map (·.2)) vs
  | _ => False
abbrev kx (X : Cx) : Kx := ⟨X.K, X.mg⟩
abbrev WX' := Value → Option Addr → L2.St → Hp → Prop

def isSh : O → Bool
  | .fd (.sh _) => true
  | _ => false
/-- the slot owns what it holds -/
def Ow (ρ : Env) (i : Nat) : Prop := ∃ o, ρ[i]? = some (some o) ∧ isSh o = false
/-- a step; p: it changes nothing that stood -/
structure Stp (p : Bool) (ρ : Env) (A : Fp) (F H : Hp) (ρ' : Env) (A' : Fp) (F' H' : Hp) : Prop where
  fr : Fr A F H A' F' H'
  pu : p = true → Same H H' ∧ ∀ i, Ow ρ i → Ow ρ' i ∧ ∀ b ∈ A (.s i), b ∈ A' (.s i)
theorem Stp.refl {p : Bool} {ρ : Env} {A : Fp} {F H : Hp} : Stp p ρ A F H ρ A F H := ⟨Fr.refl, fun _ => ⟨Same.refl _, fun _ q => ⟨q, fun _ h => h⟩⟩⟩
theorem Stp.trans {p q : Bool} {ρ ρ' ρ'' : Env} {A A' A'' : Fp} {F F' F'' H H' H'' : Hp} (x : Stp p ρ A F H ρ' A' F' H') (y : Stp q ρ' A' F' H' ρ'' A'' F'' H'') : Stp (p && q) ρ A F H ρ'' A'' F'' H'' :=
  ⟨x.fr.trans y.fr, fun h => by
    obtain ⟨h1, h2⟩ := Bool.and_eq_true_iff.mp h
    refine ⟨(x.pu h1).1.trans (y.pu h2).1, fun i w => ?_⟩
    obtain ⟨w1, s1⟩ := (x.pu h1).2 i w
    obtain ⟨w2, s2⟩ := (y.pu h2).2 i w1
    exact ⟨w2, fun b hb => s2 b (s1 b hb)⟩⟩
theorem Stp.any {p : Bool} {ρ ρ' : Env} {A A' : Fp} {F F' H H' : Hp} (x : Stp true ρ A F H ρ' A' F' H') : Stp p ρ A F H ρ' A' F' H' := ⟨x.fr, fun _ => x.pu rfl⟩
theorem Stp.no {ρ ρ' : Env} {A A' : Fp} {F F' H H' : Hp} (x : Fr A F H A' F' H') : Stp false ρ A F H ρ' A' F' H' := ⟨x, nofun⟩
theorem Stp.imp {p q : Bool} {ρ ρ' : Env} {A A' : Fp} {F F' H H' : Hp} (x : Stp p ρ A F H ρ' A' F' H') (h : q = true → p = true) : Stp q ρ A F H ρ' A' F' H' := ⟨x.fr, fun e => x.pu (h e)⟩
/-- a further step upon the same slots -/
theorem Stp.then {p : Bool} {ρ ρ' : Env} {A A' A'' : Fp} {F F' F'' H H' H'' : Hp} (x : Stp p ρ A F H ρ' A' F' H') (f : Fr A' F' H' A'' F'' H'') (h : Same H' H'') (hA : ∀ i, A'' (.s i) = A' (.s i)) : Stp p ρ A F H ρ' A'' F'' H'' :=
  ⟨x.fr.trans f, fun z => ⟨(x.pu z).1.trans h, fun i q => ⟨((x.pu z).2 i q).1, fun b hb => by rw [hA]; exact ((x.pu z).2 i q).2 b hb⟩⟩⟩
/-- what may come out by an exception -/
def XX (κ : Kx) (W : WX') (A : Fp) (F H : Hp) (σ : L2.St) (τ : List O) (υ : List V) (e : D) (ρ' : Env) : Prop :=
  ∀ cls d A' F' H', Fr A F H A' F' H' → G κ A' F' H' ρ' σ τ υ → ExRep κ F' H' cls d e → W cls d σ H'
theorem XX.step {κ : Kx} {W : WX'} {A A1 : Fp} {F F1 H H1 : Hp} {σ : L2.St} {τ : List O} {υ : List V} {e : D} {ρ' : Env} (x : XX κ W A F H σ τ υ e ρ') (f : Fr A F H A1 F1 H1) : XX κ W A1 F1 H1 σ τ υ e ρ' :=
  fun cls d A2 F2 H2 f2 g q => x cls d A2 F2 H2 (f.trans f2) g q

/-- what is wanted of a denotation's end -/
def Wp (κ : Kx) (W : WX') (A : Fp) (F H : Hp) (σ : L2.St) (τ : List O) (υ : List V) {α : Type} (out : Out α) (q : α → Env → Prop) : Prop := match out with
  | .bad => False
  | .ok a ρ' => q a ρ'
  | .exc e ρ' => XX κ W A F H σ τ υ e ρ'
section
variable {κ : Kx} {W : WX'} {A A1 : Fp} {F F1 H H1 : Hp} {σ : L2.St} {τ : List O} {υ : List V} {α β : Type} {q q' : α → Env → Prop}
theorem Wp.imp {out : Out α} (h : Wp κ W A F H σ τ υ out q) (i : ∀ a ρ', q a ρ' → q' a ρ') : Wp κ W A F H σ τ υ out q' := by
  cases out with
  | bad => exact h
  | ok a ρ' => exact i a ρ' h
  | exc e ρ' => exact h
theorem Wp.step {out : Out α} (h : Wp κ W A F H σ τ υ out q) (f : Fr A F H A1 F1 H1) : Wp κ W A1 F1 H1 σ τ υ out q := by
  cases out with
  | bad => exact h
  | ok a ρ' => exact h
  | exc e ρ' => exact XX.step h f
theorem Wp.bind {m : M α} {k : α → M β} {ρ : Env} {q : β → Env → Prop} (h : Wp κ W A F H σ τ υ (mBind m k ρ) q) : Wp κ W A F H σ τ υ (m ρ) fun a ρ1 => Wp κ W A F H σ τ υ (k a ρ1) q := by
  unfold mBind at h
  cases e : m ρ with
  | bad => rw [e] at h; exact h
  | ok a ρ' => rw [e] at h; exact h
  | exc x ρ' => rw [e] at h; exact h
end

/-- an expression: its value on the stack -/
def tE (κ : Kx) (W : WX') (p : Bool) (m : M O) : TE := fun σ H Q => ∃ A F ρ τ υ, G κ A F H ρ σ τ υ ∧ Wp κ W A F H σ τ υ (m ρ) fun r ρ' => ∀ v A' F' H', Stp p ρ A F H ρ' A' F' H' → G κ A' F' H' ρ' σ (τ ++ [r]) (υ ++ [v]) → Q v H'
/-- an expression: its value shared -/
def tV (κ : Kx) (W : WX') (p : Bool) (m : M D) : TE := fun σ H Q => ∃ A F ρ τ υ, G κ A F H ρ σ τ υ ∧ Wp κ W A F H σ τ υ (m ρ) fun d ρ' => ∀ v A' F' H', Stp p ρ A F H ρ' A' F' H' → G κ A' F' H' ρ' σ τ υ → Rep κ F' v d → Q v H'
/-- expressions in a row: their values shared -/
def tVs (κ : Kx) (W : WX') (p : Bool) (m : M (List D)) : TA := fun σ H Q => ∃ A F ρ τ υ, G κ A F H ρ σ τ υ ∧ Wp κ W A F H σ τ υ (m ρ) fun ds ρ' => ∀ vs A' F' H', Stp p ρ A F H ρ' A' F' H' → G κ A' F' H' ρ' σ τ υ → Reps κ F' vs ds → Q vs H'
/-- where what is borrowed lies: in a slot, or in none -/
def Src (ρ : Env) (A : Fp) : Option Nat → List Addr → Prop
  | some i, B => ∀ b ∈ B, Ow ρ i ∧ b ∈ A (.s i)
  | none, B => ∀ b ∈ B, ∀ x, b ∉ A x
/-- an expression that is only looked at -/
def tB (κ : Kx) (W : WX') (p : Bool) (m : M (Option Nat × O)) : TE := fun σ H Q => ∃ A F ρ τ υ, G κ A F H ρ σ τ υ ∧ Wp κ W A F H σ τ υ (m ρ) fun r ρ' => ∀ v B A' F' H', Stp p ρ A F H ρ' A' F' H' → G κ A' F' H' ρ' σ τ υ → Own κ F' H' r.2 v B → Src ρ' A' r.1 B → Q v H'
inductive OwnL (κ : Kx) (ρ : Env) (A : Fp) (F H : Hp) : List (Option Nat × O) → List V → Prop
  | nil : OwnL κ ρ A F H [] []
  | cons {r : Option Nat × O} {v : V} {B : List Addr} {rs : List (Option Nat × O)} {vs : List V} : Own κ F H r.2 v B → Src ρ A r.1 B → OwnL κ ρ A F H rs vs → OwnL κ ρ A F H (r :: rs) (v :: vs)
/-- expressions in a row, only looked at -/
def tBs (κ : Kx) (W : WX') (p : Bool) (m : M (List (Option Nat × O))) : TA := fun σ H Q => ∃ A F ρ τ υ, G κ A F H ρ σ τ υ ∧ Wp κ W A F H σ τ υ (m ρ) fun rs ρ' => ∀ vs A' F' H', Stp p ρ A F H ρ' A' F' H' → G κ A' F' H' ρ' σ τ υ → OwnL κ ρ' A' F' H' rs vs → Q vs H'
/-- a test -/
def tT (κ : Kx) (W : WX') (p : Bool) (m : M Bool) : TT := fun σ H Q => ∃ A F ρ τ υ, G κ A F H ρ σ τ υ ∧ Wp κ W A F H σ τ υ (m ρ) fun r ρ' => ∀ A' F' H', Stp p ρ A F H ρ' A' F' H' → G κ A' F' H' ρ' σ τ υ → Q r H'
/-- what is wanted of a statement's end; the slots mu are not stored to -/
def PsO (κ : Kx) (W : WX') (mu : List Nat) (E : Ends) (σ : L2.St) (A : Fp) (F H : Hp) : OutS → Prop
  | .bad => False
  | .next ρ' => ∀ σ' A' F' H', Fr A F H A' F' H' → G κ A' F' H' ρ' σ' [] [] → (∀ i ∈ mu, σ'[i]? = σ[i]?) → E.nx σ' H'
  | .ret r ρ' => ∀ v σ' A' F' H', Fr A F H A' F' H' → G κ A' F' H' ρ' σ' [r] [v] → (∀ i ∈ mu, σ'[i]? = σ[i]?) → E.rt v H'
  | .brk ρ' => ∀ σ' A' F' H', Fr A F H A' F' H' → G κ A' F' H' ρ' σ' [] [] → (∀ i ∈ mu, σ'[i]? = σ[i]?) → E.bk σ' H'
  | .cont ρ' => ∀ σ' A' F' H', Fr A F H A' F' H' → G κ A' F' H' ρ' σ' [] [] → (∀ i ∈ mu, σ'[i]? = σ[i]?) → E.ct σ' H'
  | .exc e ρ' => ∀ cls d σ' A' F' H', Fr A F H A' F' H' → G κ A' F' H' ρ' σ' [] [] → ExRep κ F' H' cls d e → (∀ i ∈ mu, σ'[i]? = σ[i]?) → W cls d σ' H'
/-- a statement -/
def tS (κ : Kx) (W : WX') (mu : List Nat) (m : MS) : TS := fun E σ H => ∃ A F ρ, G κ A F H ρ σ [] [] ∧ PsO κ W mu E σ A F H (m ρ)

/-- a weaker reading -/
theorem pe_imp {X : Cx} {e : Expr} {t t' : TE} (h : PE X e t) (i : ∀ σ H Q, t' σ H Q → t σ H Q) : PE X e t' := ⟨fun pins s σ H Q I q => h.run pins s σ H Q I (i σ H Q q)⟩
theorem pt_imp {X : Cx} {e : Expr} {t t' : TT} (h : PT X e t) (i : ∀ σ H Q, t' σ H Q → t σ H Q) : PT X e t' := ⟨fun pins s σ H Q I q => h.run pins s σ H Q I (i σ H Q q)⟩
theorem ps_imp {X : Cx} {st : Stmt} {t t' : TS} (h : PS X st t) (i : ∀ E σ H, t' E σ H → t E σ H) : PS X st t' := ⟨fun pins s σ H E I q => h.run pins s σ H E I (i E σ H q)⟩
theorem pss_imp {X : Cx} {st : List Stmt} {t t' : TS} (h : PSs X st t) (i : ∀ E σ H, t' E σ H → t E σ H) : PSs X st t' := ⟨fun pins s σ H E I q => h.run pins s σ H E I (i E σ H q)⟩
end DL

end

section
set_option Elab.async false
set_option linter.all false
set_option maxRecDepth 100000
/-! DL, part C: operations on data, expressions. -/
namespace DL
open PySem L2

/-! ### what data tell of values -/
section
variable {κ : Kx} {F H : Hp} {o : O} {v : V} {B : List Addr}
theorem Rep.int_v {i : Int} (r : Rep κ F v (.int i)) : v = .int i := by cases r; rfl
theorem Rep.bl_v {b : Bool} (r : Rep κ F v (.bl b)) : v = .bl b := by cases r; rfl
theorem Rep.str_v {x : Str} (r : Rep κ F v (.str x)) : v = .str x := by cases r; rfl
theorem Rep.non_v (r : Rep κ F v .non) : v = .non := by cases r; rfl
theorem Rep.tup_v {ds : List D} (r : Rep κ F v (.tup ds)) : ∃ a vs, v = .ref a ∧ F a = some (.tup vs) ∧ Reps κ F vs ds := by
  cases r with
  | tup h r => exact ⟨_, _, rfl, h, r⟩
theorem Rep.lst_v {ds : List D} (r : Rep κ F v (.lst ds)) : ∃ a vs, v = .ref a ∧ F a = some (.lst vs) ∧ Reps κ F vs ds := by
  cases r with
  | lst h r => exact ⟨_, _, rfl, h, r⟩
theorem Rep.fz_v {ds : List D} (r : Rep κ F v (.fz ds)) : ∃ a vs, v = .ref a ∧ SqL κ.K F a vs ∧ Reps κ F vs ds := by
  cases r with
  | fz h r => exact ⟨_, _, rfl, h, r⟩
theorem Rep.dk_v {ks : List Key} {ds : List D} (r : Rep κ F v (.dk ks ds)) : ∃ a kvs, v = .ref a ∧ F a = some (.dK kvs) ∧ kvs.map (·.1) = ks ∧ Reps κ F (kvs.map (·.2)) ds := by
  cases r with
  | dk h r => exact ⟨_, _, rfl, h, rfl, r⟩
theorem Rep.dt_v {ks : List (List Key)} {ds : List D} (r : Rep κ F v (.dt ks ds)) : ∃ a kvs, v = .ref a ∧ F a = some (.dT kvs) ∧ kvs.map (·.1) = ks ∧ Reps κ F (kvs.map (·.2)) ds := by
  cases r with
  | dt h r => exact ⟨_, _, rfl, h, rfl, r⟩
theorem Rep.ob_v {c : Str} {ns : List Str} {ds : List D} (r : Rep κ F v (.ob c ns ds)) : ∃ a C dx fs, v = .ref a ∧ F a = some (.ins C dx fs) ∧ κ.mg c = some (.ref C) ∧ fs.map (·.1) = ns ∧ Reps κ F (fs.map (·.2)) ds := by
  cases r with
  | ob h m r => exact ⟨_, _, _, _, rfl, h, m, rfl, r⟩
/-- a list that is owned or shared: its object in the whole heap, its items shared -/
theorem Own.lst_v {ds : List D} (w : Own κ F H o v B) (e : o.toD = .lst ds) (fh : Same F H) : ∃ a vs, v = .ref a ∧ H a = some (.lst vs) ∧ Reps κ F vs ds := by
  cases w with
  | fd w =>
    cases w with
    | sh r =>
      have e' : _ = D.lst ds := e
      subst e'
      obtain ⟨a, vs, h1, h2, h3⟩ := r.lst_v
      exact ⟨a, vs, h1, fh _ _ h2, h3⟩
    | ct w =>
      rename_i c a
      cases c with
      | lst ds' =>
        have e' : D.lst ds' = D.lst ds := e
        cases e'
        obtain ⟨vs, h1, h2⟩ := w
        exact ⟨a, vs, rfl, h1, h2⟩
      | dk _ _ => cases e
      | dt _ _ => cases e
  | ob _ _ _ => cases e
  | dk _ _ => cases e
theorem Own.tup_v {ds : List D} (w : Own κ F H o v B) (e : o.toD = .tup ds) : ∃ a vs, v = .ref a ∧ F a = some (.tup vs) ∧ Reps κ F vs ds := by
  cases w with
  | fd w =>
    cases w with
    | sh r =>
      have e' : _ = D.tup ds := e
      subst e'
      exact r.tup_v
    | ct w =>
      rename_i c a
      cases c <;> cases e
  | ob _ _ _ => cases e
  | dk _ _ => cases e
theorem Own.fz_v {ds : List D} (w : Own κ F H o v B) (e : o.toD = .fz ds) : ∃ a vs, v = .ref a ∧ SqL κ.K F a vs ∧ Reps κ F vs ds := by
  cases w with
  | fd w =>
    cases w with
    | sh r =>
      have e' : _ = D.fz ds := e
      subst e'
      exact r.fz_v
    | ct w =>
      rename_i c a
      cases c <;> cases e
  | ob _ _ _ => cases e
  | dk _ _ => cases e
theorem Own.int_v {i : Int} (w : Own κ F H o v B) (e : o.toD = .int i) (fh : Same F H) : v = .int i := by
  have r := w.repH fh
  rw [e] at r
  exact r.int_v
theorem Own.bl_v {b : Bool} (w : Own κ F H o v B) (e : o.toD = .bl b) (fh : Same F H) : v = .bl b := by
  have r := w.repH fh
  rw [e] at r
  exact r.bl_v
theorem Own.str_v {x : Str} (w : Own κ F H o v B) (e : o.toD = .str x) (fh : Same F H) : v = .str x := by
  have r := w.repH fh
  rw [e] at r
  exact r.str_v
theorem Own.non_v (w : Own κ F H o v B) (e : o.toD = .non) (fh : Same F H) : v = .non := by
  have r := w.repH fh
  rw [e] at r
  exact r.non_v
end

/-! ### ends of an expression -/
section
variable {κ : Kx} {A : Fp} {F H : Hp} {ρ : Env} {σ : L2.St} {τ : List O} {υ : List V}
/-- what an operation's end hands on -/
def Fin (κ : Kx) (A : Fp) (F H : Hp) (ρ : Env) (σ : L2.St) (τ : List O) (υ : List V) (o : O) (v : V) (H' : Hp) : Prop :=
  ∃ A' F', Stp true ρ A F H ρ A' F' H' ∧ G κ A' F' H' ρ σ (τ ++ [o]) (υ ++ [v])
theorem upA_t {k : Nat} {S : List Addr} (i : Nat) : upA A (.t k) S (.s i) = A (.s i) := upA_ne nofun
theorem fin_sh (g : G κ A F H ρ σ τ υ) {v : V} {d : D} (r : Rep κ F v d) : Fin κ A F H ρ σ τ υ (.sh d) v H :=
  ⟨_, F, Stp.refl.then (g.pushSh r).2 (Same.refl _) fun i => upA_t i, (g.pushSh r).1⟩
theorem same_new {H : Hp} {p : Addr} {o : HO} (h : H p = none) : Same H (upd H p o) := fun b u q => by rw [upd_ne (ne_of_none q h)]; exact q
theorem fin_tup (g : G κ A F H ρ σ τ υ) {p : Addr} {vs : List V} {ds : List D} (h : H p = none) (r : Reps κ F vs ds) : Fin κ A F H ρ σ τ υ (.sh (.tup ds)) (.ref p) (upd H p (.tup vs)) := by
  obtain ⟨g1, f1⟩ := g.share (.tup vs) h
  have e : Rep κ (upd F p (.tup vs)) (.ref p) (.tup ds) := .tup upd_same (r.mono f1.grow)
  obtain ⟨g2, f2⟩ := g1.pushSh e
  exact ⟨_, _, Stp.refl.then (f1.trans f2) (same_new h) fun i => upA_t i, g2⟩
theorem fin_lst (g : G κ A F H ρ σ τ υ) {p : Addr} {vs : List V} {ds : List D} (h : H p = none) (r : Reps κ F vs ds) : Fin κ A F H ρ σ τ υ (.lst ds) (.ref p) (upd H p (.lst vs)) := by
  obtain ⟨g2, f2⟩ := g.pushNew (r := .lst ds) h rfl (.fd (.ct ⟨vs, upd_same, r⟩))
  exact ⟨_, _, Stp.refl.then f2 (same_new h) fun i => upA_t i, g2⟩
end

/-! ### two-place operations -/
def Op2 (κ : Kx) (r : R2) (f : D → D → Option O) : Prop := ∀ (A : Fp) (F H : Hp) (ρ : Env) (σ : L2.St) (τ : List O) (υ : List V), G κ A F H ρ σ τ υ →
  ∀ (o1 o2 : O) (v1 v2 : V) (B1 B2 : List Addr), Own κ F H o1 v1 B1 → Own κ F H o2 v2 B2 → ∀ o, f o1.toD o2.toD = some o → ∀ Q : VK, (∀ v H', Fin κ A F H ρ σ τ υ o v H' → Q v H') → r v1 v2 H Q
def mOp2 (pb : Bool) (f : D → D → Option O) (ma mb : M (Option Nat × O)) : M O := mBind ma fun x => if pb || isSh x.2 then mBind mb fun y => match f x.2.toD y.2.toD with
  | some o => mPure o
  | none => fun _ => .bad
  else fun _ => .bad
theorem isSh_stay {κ : Kx} {F F' H H' : Hp} {o : O} {v : V} {B : List Addr} (h : isSh o = true) (w : Own κ F H o v B) (e : Same F F') : Own κ F' H' o v B := by
  cases w with
  | fd w =>
    cases w with
    | sh r => exact .fd (.sh (r.mono e))
    | ct _ => cases h
  | ob _ _ _ => cases h
  | dk _ _ => cases h
theorem Own.sh_v {κ : Kx} {F H : Hp} {d : D} {v : V} {B : List Addr} (w : Own κ F H (.sh d) v B) : Rep κ F v d := by
  cases w with
  | fd w => cases w with
    | sh r => exact r
theorem Own.sh_nil {κ : Kx} {F H : Hp} {d : D} {v : V} {B : List Addr} (w : Own κ F H (.sh d) v B) : B = [] := by
  cases w with
  | fd w => cases w with
    | sh r => rfl
theorem isSh_v {κ : Kx} {F H : Hp} {o : O} {v : V} {B : List Addr} (h : isSh o = true) (w : Own κ F H o v B) : ∃ d, o = .sh d ∧ Rep κ F v d := by
  cases w with
  | fd w =>
    cases w with
    | sh r => exact ⟨_, rfl, r⟩
    | ct _ => cases h
  | ob _ _ _ => cases h
  | dk _ _ => cases h
section
variable {X : Cx} {κ : Kx} {W : WX'} {a b : Expr} {pa pb : Bool} {ma mb : M (Option Nat × O)} {pos : Pos}
/-- two operands, then an operation: the reading -/
theorem tOp_of {r : R2} {f : D → D → Option O} (hs : Op2 κ r f) {σ : L2.St} {H : Hp} {Q : VK} (h : tE κ W (pa && pb) (mOp2 pb f ma mb) σ H Q) : tOp r (tB κ W pa ma) (tB κ W pb mb) σ H Q := by
  obtain ⟨A, F, ρ, τ, υ, g, h⟩ := h
  refine ⟨A, F, ρ, τ, υ, g, h.bind.imp fun x ρ1 h v1 B1 A1 F1 H1 f1 g1 w1 _ => ?_⟩
  split at h
  · rename_i hc
    refine ⟨A1, F1, ρ1, τ, υ, g1, (h.step f1.fr).bind.imp fun y ρ2 h v2 B2 A2 F2 H2 f2 g2 w2 _ => ?_⟩
    have w1' : Own κ F2 H2 x.2 v1 B1 := by
      rcases Bool.or_eq_true_iff.mp hc with z | z
      · exact w1.mono f2.fr.grow fun b _ o q => (f2.pu z).1 b o q
      · exact isSh_stay z w1 f2.fr.grow
    cases e3 : f x.2.toD y.2.toD with
    | none => rw [e3] at h; exact h.elim
    | some o =>
      rw [e3] at h
      refine hs A2 F2 H2 ρ2 σ τ υ g2 x.2 y.2 v1 v2 B1 B2 w1' w2 o e3 Q fun v H3 ⟨A3, F3, f3, g3⟩ => ?_
      exact h v A3 F3 H3 (((f1.trans f2).trans f3).imp fun z => by rw [z]; rfl) g3
  · exact h.elim
theorem de_op {op : Operator} {r : R2} {f : D → D → Option O} (ho : OpR X (binaryOp op) r) (hs : Op2 κ r f) (ha : PE X a (tB κ W pa ma)) (hb : PE X b (tB κ W pb mb)) : PE X (.BinOp a op b pos) (tE κ W (pa && pb) (mOp2 pb f ma mb)) :=
  pe_imp (pe_op ho ha hb) fun _ _ _ h => tOp_of hs h
theorem de_cmp {op : CmpOp} {r : R2} {f : D → D → Option O} (ho : OpR X (compareOp op) r) (hs : Op2 κ r f) (ha : PE X a (tB κ W pa ma)) (hb : PE X b (tB κ W pb mb)) (hm : behindInMarks op b = false) : PE X (.Compare a [op] [b] pos) (tE κ W (pa && pb) (mOp2 pb f ma mb)) :=
  pe_imp (pe_cmpR ho ha hb hm) fun _ _ _ h => tOp_of hs h
end

/-! ### the operations on data -/
abbrev lim : Nat := 16777216
def addD : D → D → Option O
  | .int i, .int j => some (.sh (.int (i + j)))
  | .int i, .bl k => some (.sh (.int (i + PyProof.Rows.b2i k)))
  | .str x, .str y => if x.length + y.length ≤ lim then some (.sh (.str (x ++ y))) else none
  | .tup xs, .tup ys => if xs.length + ys.length ≤ lim then some (.sh (.tup (xs ++ ys))) else none
  | .lst xs, .lst ys => if xs.length + ys.length ≤ lim then some (.lst (xs ++ ys)) else none
  | _, _ => none
def rAddA (K : PySem.W.Frag) : R2 := fun x y H Q => (rI0 (fun i j => .int (i + j)) x y H Q ∨ (∃ i k, x = .int i ∧ y = .bl k ∧ Q (.int (i + PyProof.Rows.b2i k)) H)) ∨ (∃ i j, x = .str i ∧ y = .str j ∧ i.length + j.length ≤ sizeLine ∧ Q (.str (i ++ j)) H) ∨ rCatA K x y H Q ∨ rCat x y H Q
section
variable {X : Cx}
theorem op_addA : OpR X (binaryOp .Add) (rAddA X.K) := (op_add.or op_add_ib).or (op_add_str.or (op_catA.or op_cat))
end
theorem lim_eq : lim = sizeLine := sizeLine_eq.symm
theorem Same.tup {K : PySem.W.Frag} {F H : Hp} (e : Same F H) {a : Addr} {vs : List V} (h : SqT K F a vs) : SqT K H a vs := sqT_mono e h
theorem add_sem {κ : Kx} : Op2 κ (rAddA κ.K) addD := by
  intro A F H ρ σ τ υ g o1 o2 v1 v2 B1 B2 w1 w2 o e Q q
  have r1 := w1.repH g.fh
  have r2 := w2.repH g.fh
  unfold addD at e
  split at e
  · rename_i i j e1 e2
    cases e
    have a1 := w1.int_v e1 g.fh
    have a2 := w2.int_v e2 g.fh
    exact .inl (.inl ⟨i, j, a1, a2, q _ _ (fin_sh g (.int _))⟩)
  · rename_i i k e1 e2
    cases e
    exact .inl (.inr ⟨i, k, w1.int_v e1 g.fh, w2.bl_v e2 g.fh, q _ _ (fin_sh g (.int _))⟩)
  · rename_i x y e1 e2
    split at e
    · rename_i hl
      cases e
      exact .inr (.inl ⟨x, y, w1.str_v e1 g.fh, w2.str_v e2 g.fh, lim_eq ▸ hl, q _ _ (fin_sh g (.str _))⟩)
    · cases e
  · rename_i xs ys e1 e2
    split at e
    · rename_i hl
      cases e
      obtain ⟨a, vs, rfl, h1, s1⟩ := w1.tup_v e1
      obtain ⟨b, ws, rfl, h2, s2⟩ := w2.tup_v e2
      refine .inr (.inr (.inl ⟨a, b, vs, ws, rfl, rfl, SqT.of (g.fh _ _ h1), SqT.of (g.fh _ _ h2), by rw [s1.length, s2.length, ← lim_eq]; exact hl, fun z => ?_, fun _ z => ?_, fun _ _ p hp => ?_⟩))
      · subst z
        cases s1
        exact q _ _ (fin_sh g (.tup h2 s2))
      · subst z
        cases s2
        rw [List.append_nil] at q
        exact q _ _ (fin_sh g (.tup h1 s1))
      · exact q _ _ (fin_tup g hp (s1.append s2))
    · cases e
  · rename_i xs ys e1 e2
    split at e
    · rename_i hl
      cases e
      obtain ⟨a, vs, rfl, h1, s1⟩ := w1.lst_v e1 g.fh
      obtain ⟨b, ws, rfl, h2, s2⟩ := w2.lst_v e2 g.fh
      exact .inr (.inr (.inr ⟨a, b, vs, ws, rfl, rfl, h1, h2, by rw [s1.length, s2.length, ← lim_eq]; exact hl, fun p hp => q _ _ (fin_lst g hp (s1.append s2))⟩))
    · cases e
  · cases e

/-! ### ints -/
def liftI (f : Int → Int → Option Int) : D → D → Option O
  | .int i, .int j => match f i j with
    | some k => some (.sh (.int k))
    | none => none
  | _, _ => none
theorem op2_int {κ : Kx} {r : R2} {f : Int → Int → Option Int} (h : ∀ i j k H (Q : VK), f i j = some k → Q (.int k) H → r (.int i) (.int j) H Q) : Op2 κ r (liftI f) := by
  intro A F H ρ σ τ υ g o1 o2 v1 v2 B1 B2 w1 w2 o e Q q
  unfold liftI at e
  split at e
  · rename_i i j e1 e2
    split at e
    · rename_i k ek
      cases e
      rw [w1.int_v e1 g.fh, w2.int_v e2 g.fh]
      exact h i j k H Q ek (q _ _ (fin_sh g (.int _)))
    · cases e
  · cases e
def liftB (f : Int → Int → Bool) : D → D → Option O
  | .int i, .int j => some (.sh (.bl (f i j)))
  | _, _ => none
theorem op2_bl {κ : Kx} {r : R2} {f : Int → Int → Bool} (h : ∀ i j H (Q : VK), Q (.bl (f i j)) H → r (.int i) (.int j) H Q) : Op2 κ r (liftB f) := by
  intro A F H ρ σ τ υ g o1 o2 v1 v2 B1 B2 w1 w2 o e Q q
  unfold liftB at e
  split at e
  · rename_i i j e1 e2
    cases e
    rw [w1.int_v e1 g.fh, w2.int_v e2 g.fh]
    exact h i j H Q (q _ _ (fin_sh g (.bl _)))
  · cases e
theorem rI_of {C : Int → Int → Prop} {gf : Int → Int → V} {i j : Int} {H : Hp} {Q : VK} (hc : C i j) (q : Q (gf i j) H) : rI C gf (.int i) (.int j) H Q := ⟨i, j, rfl, rfl, hc, q⟩
theorem rI0_of {gf : Int → Int → V} {i j : Int} {H : Hp} {Q : VK} (q : Q (gf i j) H) : rI0 gf (.int i) (.int j) H Q := ⟨i, j, rfl, rfl, q⟩

def subI (i j : Int) : Option Int := some (i - j)
def P512 : Nat := 2 ^ 512
def mulI (i j : Int) : Option Int := if i.natAbs < P512 ∧ j.natAbs < P512 then some (i * j) else none
def divI (i j : Int) : Option Int := if 0 < j ∧ j.natAbs < P512 then some (i / j) else none
def modI (i j : Int) : Option Int := if 0 < j then some (i % j) else none
def powI (i j : Int) : Option Int := if 0 ≤ j ∧ j ≤ 1000000 ∧ i.natAbs < 18446744073709551616 then some (i ^ j.toNat) else none
def shlI (i j : Int) : Option Int := if 0 ≤ j ∧ j ≤ 1000000 ∧ i.natAbs < 18446744073709551616 then some (i * 2 ^ j.toNat) else none
def shrI (i j : Int) : Option Int := if 0 ≤ j then some (i / 2 ^ j.toNat) else none
def andI (i j : Int) : Option Int := some (Builtin.bitAnd i j)
def orI (i j : Int) : Option Int := some (Builtin.bitOr i j)
def xorI (i j : Int) : Option Int := some (Builtin.bitXor i j)
theorem sub_sem {κ : Kx} : Op2 κ (rI0 fun i j => .int (i - j)) (liftI subI) := op2_int fun i j k H Q e q => by cases e; exact rI0_of q
theorem and_sem {κ : Kx} : Op2 κ (rI0 fun i j => .int (Builtin.bitAnd i j)) (liftI andI) := op2_int fun i j k H Q e q => by cases e; exact rI0_of q
theorem or_sem {κ : Kx} : Op2 κ (rI0 fun i j => .int (Builtin.bitOr i j)) (liftI orI) := op2_int fun i j k H Q e q => by cases e; exact rI0_of q
theorem xor_sem {κ : Kx} : Op2 κ (rI0 fun i j => .int (Builtin.bitXor i j)) (liftI xorI) := op2_int fun i j k H Q e q => by cases e; exact rI0_of q
theorem log512 {n : Nat} (h : n < P512) : n.log2 < 512 := PySem.Flt.log2_lt_of (by decide) h
theorem mul_semI {κ : Kx} : Op2 κ (rI CMulW fun i j => .int (i * j)) (liftI mulI) := op2_int fun i j k H Q e q => by
  unfold mulI at e
  split at e
  · rename_i hc
    cases e
    exact rI_of (wide_mul (a := 512) (b := 512) hc.1 hc.2 (by decide) (by decide) (by decide)) q
  · cases e
theorem div_sem {κ : Kx} : Op2 κ (rI CDivW fun i j => .int (i / j)) (liftI divI) := op2_int fun i j k H Q e q => by
  unfold divI at e
  split at e
  · rename_i hc
    cases e
    exact rI_of ⟨hc.1, Nat.lt_trans (log512 hc.2) (by decide)⟩ q
  · cases e
theorem mod_sem {κ : Kx} : Op2 κ (rI (fun _ j => 0 < j) fun i j => .int (i % j)) (liftI modI) := op2_int fun i j k H Q e q => by
  unfold modI at e
  split at e
  · rename_i hc
    cases e
    exact rI_of hc q
  · cases e
theorem pow_sem {κ : Kx} : Op2 κ (rI CPow fun i j => .int (i ^ j.toNat)) (liftI powI) := op2_int fun i j k H Q e q => by
  unfold powI at e
  split at e
  · rename_i hc
    cases e
    exact rI_of ⟨hc.1, hc.2.1, hc.2.2⟩ q
  · cases e
theorem shl_sem {κ : Kx} : Op2 κ (rI CPow fun i j => .int (i * 2 ^ j.toNat)) (liftI shlI) := op2_int fun i j k H Q e q => by
  unfold shlI at e
  split at e
  · rename_i hc
    cases e
    exact rI_of ⟨hc.1, hc.2.1, hc.2.2⟩ q
  · cases e
theorem shr_sem {κ : Kx} : Op2 κ (rI (fun _ j => 0 ≤ j) fun i j => .int (i / 2 ^ j.toNat)) (liftI shrI) := op2_int fun i j k H Q e q => by
  unfold shrI at e
  split at e
  · rename_i hc
    cases e
    exact rI_of hc q
  · cases e
theorem lt_sem {κ : Kx} : Op2 κ (rI0 fun i j => .bl (decide (i < j))) (liftB fun i j => decide (i < j)) := op2_bl fun i j H Q q => rI0_of q
theorem le_sem {κ : Kx} : Op2 κ (rI0 fun i j => .bl (decide (i ≤ j))) (liftB fun i j => decide (i ≤ j)) := op2_bl fun i j H Q q => rI0_of q
theorem gt_sem {κ : Kx} : Op2 κ (rI0 fun i j => .bl (decide (j < i))) (liftB fun i j => decide (j < i)) := op2_bl fun i j H Q q => rI0_of q
theorem ge_sem {κ : Kx} : Op2 κ (rI0 fun i j => .bl (decide (j ≤ i))) (liftB fun i j => decide (j ≤ i)) := op2_bl fun i j H Q q => rI0_of q

/-! ### == of data -/
mutual
def toPy : D → Option PyData
  | .non => some .none
  | .bl b => some (.bool b)
  | .int i => some (.int i)
  | .str x => some (.str x)
  | .tup xs => match toPys xs with
    | some ys => some (.tuple ys)
    | none => none
  | .lst xs => match toPys xs with
    | some ys => some (.list ys)
    | none => none
  | _ => none
def toPys : List D → Option (List PyData)
  | [] => some []
  | x :: xs => match toPy x, toPys xs with
    | some y, some ys => some (y :: ys)
    | _, _ => none
end
mutual
theorem Rep.dp {κ : Kx} {F : Hp} : ∀ {v : V} {d : D} {p : PyData}, Rep κ F v d → toPy d = some p → Dp κ.K F v p
  | _, _, _, .non, e => by simp only [toPy] at e; cases e; exact .non
  | _, _, _, .bl b, e => by simp only [toPy] at e; cases e; exact .bl b
  | _, _, _, .int i, e => by simp only [toPy] at e; cases e; exact .int i
  | _, _, _, .str x, e => by simp only [toPy] at e; cases e; exact .str x
  | _, _, _, .tup h r, e => by
    simp only [toPy] at e
    split at e
    · rename_i ys ey; cases e; exact .tup (SqT.of h) (Reps.dp r ey)
    · cases e
  | _, _, _, .lst h r, e => by
    simp only [toPy] at e
    split at e
    · rename_i ys ey; cases e; exact .lst (.inl (.inl h)) (Reps.dp r ey)
    · cases e
  | _, _, _, .fz _ _, e => by simp only [toPy] at e; cases e
  | _, _, _, .dk _ _, e => by simp only [toPy] at e; cases e
  | _, _, _, .dt _ _, e => by simp only [toPy] at e; cases e
  | _, _, _, .ob _ _ _, e => by simp only [toPy] at e; cases e
theorem Reps.dp {κ : Kx} {F : Hp} : ∀ {vs : List V} {ds : List D} {ps : List PyData}, Reps κ F vs ds → toPys ds = some ps → DpAll κ.K F vs ps
  | _, _, _, .nil, e => by simp only [toPys] at e; cases e; exact .nil
  | _, _, _, .cons h r, e => by
    simp only [toPys] at e
    split at e
    · rename_i y ys e1 e2; cases e; exact .cons (Rep.dp h e1) (Reps.dp r e2)
    · cases e
end
def eqD (a b : D) : Option Bool := match toPy a, toPy b with
  | some p, some q => if SeqAt.shaped p && SeqAt.shaped q then some (PyData.eqv p q) else none
  | _, _ => none
def eqO (a b : D) : Option O := match eqD a b with
  | some c => some (.sh (.bl c))
  | none => none
def neO (a b : D) : Option O := match eqD a b with
  | some c => some (.sh (.bl (!c)))
  | none => none
theorem eqD_of {a b : D} {c : Bool} (h : eqD a b = some c) : ∃ p q, toPy a = some p ∧ toPy b = some q ∧ SeqAt.shaped p = true ∧ SeqAt.shaped q = true ∧ c = PyData.eqv p q := by
  unfold eqD at h
  split at h
  · rename_i p q e1 e2
    split at h
    · rename_i hc
      cases h
      obtain ⟨h1, h2⟩ := Bool.and_eq_true_iff.mp hc
      exact ⟨p, q, e1, e2, h1, h2, rfl⟩
    · cases h
  · cases h
theorem eq_sem {κ : Kx} : Op2 κ (rEqD κ.K) eqO := by
  intro A F H ρ σ τ υ g o1 o2 v1 v2 B1 B2 w1 w2 o e Q q
  unfold eqO at e
  split at e
  · rename_i c ec
    cases e
    obtain ⟨p, p', h1, h2, h3, h4, rfl⟩ := eqD_of ec
    exact ⟨p, p', (w1.repH g.fh).dp h1, (w2.repH g.fh).dp h2, h3, h4, q _ _ (fin_sh g (.bl _))⟩
  · cases e
theorem ne_sem {κ : Kx} : Op2 κ (rNeD κ.K) neO := by
  intro A F H ρ σ τ υ g o1 o2 v1 v2 B1 B2 w1 w2 o e Q q
  unfold neO at e
  split at e
  · rename_i c ec
    cases e
    obtain ⟨p, p', h1, h2, h3, h4, rfl⟩ := eqD_of ec
    exact ⟨p, p', (w1.repH g.fh).dp h1, (w2.repH g.fh).dp h2, h3, h4, q _ _ (fin_sh g (.bl _))⟩
  · cases e

/-! ### is -/
def isD : D → D → Option Bool
  | .non, .non => some true
  | .bl a, .bl b => some (decide (a = b))
  | .ob _ _ _, .non | .tup _, .non | .lst _, .non | .int _, .non | .bl _, .non | .str _, .non | .dk _ _, .non | .dt _ _, .non => some false
  | _, _ => none
def isO (a b : D) : Option O := match isD a b with
  | some c => some (.sh (.bl c))
  | none => none
def isnO (a b : D) : Option O := match isD a b with
  | some c => some (.sh (.bl (!c)))
  | none => none
def rIs : R2 := fun x y H Q => (y = .non ∧ Q (.bl (decide (x = .non))) H) ∨ ∃ a b, x = .bl a ∧ y = .bl b ∧ Q (.bl (decide (a = b))) H
def rIsn : R2 := fun x y H Q => (y = .non ∧ Q (.bl (!decide (x = .non))) H) ∨ ∃ a b, x = .bl a ∧ y = .bl b ∧ Q (.bl (!decide (a = b))) H
theorem op_isA {X : Cx} : OpR X (compareOp .Is) rIs := op_isN.or op_is_bl
theorem op_isnA {X : Cx} : OpR X (compareOp .IsNot) rIsn := op_notN.or op_isnot_bl
theorem Rep.isN {κ : Kx} {F : Hp} {v : V} {d : D} (r : Rep κ F v d) : (v = .non) ↔ d = .non := by
  cases r <;> constructor <;> intro h <;> first | rfl | cases h
theorem isD_of {κ : Kx} {F : Hp} {x y : V} {a b : D} {c : Bool} (r1 : Rep κ F x a) (r2 : Rep κ F y b) (h : isD a b = some c) : (y = .non ∧ c = decide (x = .non)) ∨ ∃ p q, x = .bl p ∧ y = .bl q ∧ c = decide (p = q) := by
  unfold isD at h
  split at h
  · cases h
    exact .inl ⟨r2.isN.mpr rfl, by rw [decide_eq_true (r1.isN.mpr rfl)]⟩
  · cases h
    exact .inr ⟨_, _, r1.bl_v, r2.bl_v, rfl⟩
  all_goals first
    | (cases h; exact .inl ⟨r2.isN.mpr rfl, by rw [decide_eq_false (fun z => nomatch r1.isN.mp z)]⟩)
    | cases h
theorem is_sem {κ : Kx} : Op2 κ rIs isO := by
  intro A F H ρ σ τ υ g o1 o2 v1 v2 B1 B2 w1 w2 o e Q q
  unfold isO at e
  split at e
  · rename_i c ec
    cases e
    rcases isD_of (w1.repH g.fh) (w2.repH g.fh) ec with ⟨h1, rfl⟩ | ⟨a, b, h1, h2, rfl⟩
    · exact .inl ⟨h1, q _ _ (fin_sh g (.bl _))⟩
    · exact .inr ⟨a, b, h1, h2, q _ _ (fin_sh g (.bl _))⟩
  · cases e
theorem isn_sem {κ : Kx} : Op2 κ rIsn isnO := by
  intro A F H ρ σ τ υ g o1 o2 v1 v2 B1 B2 w1 w2 o e Q q
  unfold isnO at e
  split at e
  · rename_i c ec
    cases e
    rcases isD_of (w1.repH g.fh) (w2.repH g.fh) ec with ⟨h1, rfl⟩ | ⟨a, b, h1, h2, rfl⟩
    · exact .inl ⟨h1, q _ _ (fin_sh g (.bl _))⟩
    · exact .inr ⟨a, b, h1, h2, q _ _ (fin_sh g (.bl _))⟩
  · cases e
end DL

end

section
set_option Elab.async false
set_option linter.all false
set_option maxRecDepth 100000
/-! DL, part D: conversions, names, displays, fields, subscripts, tests. -/
namespace DL
open PySem L2
def mMap {α β : Type} (f : α → β) (m : M α) : M β := fun ρ => match m ρ with
  | .bad => .bad
  | .ok a ρ' => .ok (f a) ρ'
  | .exc e ρ' => .exc e ρ'
section
variable {κ : Kx} {W : WX'} {A A1 : Fp} {F F1 H H1 : Hp} {σ : L2.St} {τ : List O} {υ : List V} {α β : Type}
theorem Wp.map {m : M α} {f : α → β} {ρ : Env} {q : β → Env → Prop} (h : Wp κ W A F H σ τ υ (mMap f m ρ) q) : Wp κ W A F H σ τ υ (m ρ) fun a ρ1 => q (f a) ρ1 := by
  unfold mMap at h
  cases e : m ρ with
  | bad => rw [e] at h; exact h
  | ok a ρ' => rw [e] at h; exact h
  | exc x ρ' => rw [e] at h; exact h
end

/-! ### conversions -/
section
variable {X : Cx} {κ : Kx} {W : WX'} {e : Expr} {p : Bool}
theorem dV_E {m : M O} (h : PE X e (tE κ W p m)) : PE X e (tV κ W p (mMap O.toD m)) := pe_imp h fun σ H Q ⟨A, F, ρ, τ, υ, g, h⟩ => by
  refine ⟨A, F, ρ, τ, υ, g, h.map.imp fun r ρ' h v A' F' H' s g' => ?_⟩
  obtain ⟨F2, g2, f2, r2⟩ := g'.freezeT
  obtain ⟨g3, _, f3⟩ := g2.pop
  exact h v _ F2 H' (s.then (f2.trans f3) (Same.refl _) fun i => by rw [upA_t, upA_t]) g3 r2
theorem dE_V {m : M D} (h : PE X e (tV κ W p m)) : PE X e (tE κ W p (mMap O.sh m)) := pe_imp h fun σ H Q ⟨A, F, ρ, τ, υ, g, h⟩ => by
  refine ⟨A, F, ρ, τ, υ, g, h.map.imp fun r ρ' h v A' F' H' s g' rp => ?_⟩
  exact h v _ F' H' (s.then (g'.pushSh rp).2 (Same.refl _) fun i => upA_t i) (g'.pushSh rp).1
theorem dB_V {m : M D} (h : PE X e (tV κ W p m)) : PE X e (tB κ W p (mMap (fun d => (none, .sh d)) m)) := pe_imp h fun σ H Q ⟨A, F, ρ, τ, υ, g, h⟩ =>
  ⟨A, F, ρ, τ, υ, g, h.map.imp fun r ρ' h v A' F' H' s g' rp => h v [] A' F' H' s g' (.fd (.sh rp)) fun b hb => absurd hb (by simp)⟩
theorem dB_E {m : M O} (h : PE X e (tE κ W p m)) : PE X e (tB κ W p (mMap (fun o => (none, o)) m)) := pe_imp h fun σ H Q ⟨A, F, ρ, τ, υ, g, h⟩ => by
  refine ⟨A, F, ρ, τ, υ, g, h.map.imp fun r ρ' h v A' F' H' s g' => ?_⟩
  obtain ⟨g2, w, f2⟩ := g'.pop
  refine h v _ _ F' H' (s.then f2 (Same.refl _) fun i => upA_t i) g2 w fun b hb x hx => ?_
  · by_cases q : x = .t τ.length
    · subst q; rw [upA_same] at hx; simp at hx
    · rw [upA_ne q] at hx
      exact g'.dj _ _ b (Ne.symm q) hb hx
def asSh : Option Nat × O → M D
  | (_, .fd (.sh d)) => mPure d
  | _ => fun _ => .bad
theorem dV_B {m : M (Option Nat × O)} (h : PE X e (tB κ W p m)) : PE X e (tV κ W p (mBind m asSh)) := pe_imp h fun σ H Q ⟨A, F, ρ, τ, υ, g, h⟩ => by
  refine ⟨A, F, ρ, τ, υ, g, h.bind.imp fun r ρ' h v B A' F' H' s g' w _ => ?_⟩
  obtain ⟨z, o⟩ := r
  cases w with
  | fd w =>
    cases w with
    | sh rp => exact h v A' F' H' s g' rp
    | ct _ => exact h.elim
  | ob _ _ _ => exact h.elim
  | dk _ _ => exact h.elim
theorem dT_V {m : M D} (h : PE X e (tV κ W p m)) (he : ∀ whole, isTrue e X.env whole = (do let v ← whole; standAt e.pos; holding [v] (truthy v)) := by intro _; rfl) :
    PT X e (tT κ W p (mBind m fun d => match d with | .bl b => mPure b | _ => fun _ => .bad)) := pt_imp (pt_val h he) fun σ H Q ⟨A, F, ρ, τ, υ, g, h⟩ => by
  refine ⟨A, F, ρ, τ, υ, g, h.bind.imp fun r ρ' h v A' F' H' s g' rp => ?_⟩
  cases r with
  | bl b => exact ⟨b, rp.bl_v, h A' F' H' s g'⟩
  | _ => exact h.elim
/-- a smaller claim of purity -/
theorem dE_no {m : M O} (h : PE X e (tE κ W p m)) : PE X e (tE κ W false m) := pe_imp h fun σ H Q ⟨A, F, ρ, τ, υ, g, h⟩ =>
  ⟨A, F, ρ, τ, υ, g, h.imp fun r ρ' h v A' F' H' s g' => h v A' F' H' (.no s.fr) g'⟩
end

/-! ### names and constants -/
def mNameB (i : Nat) : M (Option Nat × O) := fun ρ => match ρ[i]? with
  | some (some o) => .ok (some i, o) ρ
  | _ => .bad
/-- shared data of a slot -/
def mNameS (i : Nat) : M D := fun ρ => match ρ[i]? with
  | some (some (.fd (.sh d))) => .ok d ρ
  | _ => .bad
/-- .. frozen, if it is owned -/
def mNameV (i : Nat) : M D := fun ρ => match ρ[i]? with
  | some (some o) => .ok o.toD (ρ.set i (some (.sh o.toD)))
  | _ => .bad
/-- .. moved -/
def mNameM (i : Nat) : M O := fun ρ => match ρ[i]? with
  | some (some o) => .ok o (ρ.set i none)
  | _ => .bad
section
variable {X : Cx} {κ : Kx} {W : WX'} {i : Nat} {x : Str} {pos : Pos}
theorem G.slot {A : Fp} {F H : Hp} {ρ : Env} {σ : L2.St} {τ : List O} {υ : List V} (g : G κ A F H ρ σ τ υ) {o : O} (h : ρ[i]? = some (some o)) : ∃ v, σ[i]? = some (some v) ∧ Own κ F H o v (A (.s i)) := by
  obtain ⟨v, h1, h2⟩ := g.own (.s i) o (by simp [atO, h])
  refine ⟨v, ?_, h2⟩
  cases e : σ[i]? with
  | none => simp [atV, e] at h1
  | some u => simp [atV, e] at h1; rw [h1]
theorem dB_name (h : PE X (.Name x pos) (tVar i)) : PE X (.Name x pos) (tB κ W true (mNameB i)) := pe_imp h fun σ H Q ⟨A, F, ρ, τ, υ, g, h⟩ => by
  unfold mNameB at h
  split at h
  · rename_i o e
    obtain ⟨v, h1, h2⟩ := g.slot e
    refine ⟨v, h1, h v _ A F H .refl g h2 fun b hb => ⟨⟨o, e, ?_⟩, hb⟩⟩
    cases q : isSh o with
    | false => rfl
    | true =>
      obtain ⟨d, rfl, _⟩ := isSh_v q h2
      rw [h2.sh_nil] at hb
      simp at hb
  · exact h.elim
theorem dV_nameS (h : PE X (.Name x pos) (tVar i)) : PE X (.Name x pos) (tV κ W true (mNameS i)) := pe_imp h fun σ H Q ⟨A, F, ρ, τ, υ, g, h⟩ => by
  unfold mNameS at h
  split at h
  · rename_i d e
    obtain ⟨v, h1, h2⟩ := g.slot e
    exact ⟨v, h1, h v A F H .refl g h2.sh_v⟩
  · exact h.elim
theorem dV_nameV (h : PE X (.Name x pos) (tVar i)) : PE X (.Name x pos) (tV κ W false (mNameV i)) := pe_imp h fun σ H Q ⟨A, F, ρ, τ, υ, g, h⟩ => by
  unfold mNameV at h
  split at h
  · rename_i o e
    obtain ⟨F', g', f', v, h1, h2⟩ := g.freeze e
    exact ⟨v, h1, h v _ F' H (.no f') g' h2⟩
  · exact h.elim
theorem dE_nameM (h : PE X (.Name x pos) (tVar i)) : PE X (.Name x pos) (tE κ W false (mNameM i)) := pe_imp h fun σ H Q ⟨A, F, ρ, τ, υ, g, h⟩ => by
  unfold mNameM at h
  split at h
  · rename_i o e
    obtain ⟨v, h1, _⟩ := g.slot e
    obtain ⟨g', f'⟩ := g.move e h1
    exact ⟨v, h1, h v _ F H (.no f') g'⟩
  · exact h.elim
theorem dV_c {e : Expr} {v : V} {d : D} (h : PE X e (tC v)) (r : ∀ F, Rep κ F v d) : PE X e (tV κ W true (mPure d)) := pe_imp h fun σ H Q ⟨A, F, ρ, τ, υ, g, h⟩ => h v A F H .refl g (r F)
theorem dV_int {j : Int} {k : Nat} : PE X (.Constant (.int j) k pos) (tV κ W true (mPure (.int j))) := dV_c pe_int fun _ => .int _
theorem dV_bl {b : Bool} {k : Nat} : PE X (.Constant (.bool b) k pos) (tV κ W true (mPure (.bl b))) := dV_c pe_bl fun _ => .bl _
theorem dV_non {k : Nat} : PE X (.Constant .none k pos) (tV κ W true (mPure .non)) := dV_c pe_non fun _ => .non
theorem dV_str {z : Str} {k : Nat} : PE X (.Constant (.str z) k pos) (tV κ W true (mPure (.str z))) := dV_c pe_str fun _ => .str _
end

/-! ### rows, displays -/
def mCons (m : M D) (ms : M (List D)) : M (List D) := mBind m fun d => mBind ms fun ds => mPure (d :: ds)
def mTup (ms : M (List D)) : M D := mBind ms fun ds => if ds.length ≤ lim then mPure (.tup ds) else fun _ => .bad
def mLst (ms : M (List D)) : M O := mBind ms fun ds => if ds.length ≤ lim then mPure (.lst ds) else fun _ => .bad
def mConsB (pt : Bool) (m : M (Option Nat × O)) (ms : M (List (Option Nat × O))) : M (List (Option Nat × O)) := mBind m fun x => if pt || isSh x.2 then mBind ms fun xs => mPure (x :: xs) else fun _ => .bad
section
variable {X : Cx} {κ : Kx} {W : WX'} {e : Expr} {es : List Expr} {p q : Bool} {pos : Pos}
theorem pa_imp {t t' : TA} (h : PA X es t) (i : ∀ σ H Q, t' σ H Q → t σ H Q) : PA X es t' := ⟨fun pos pins s σ H Q I q => h.run pos pins s σ H Q I (i σ H Q q)⟩
theorem dVs_nil : PA X [] (tVs κ W true (mPure [])) := pa_imp pa_nil fun σ H Q ⟨A, F, ρ, τ, υ, g, h⟩ => h [] A F H .refl g .nil
theorem dVs_cons {m : M D} {ms : M (List D)} (h1 : PE X e (tV κ W p m)) (h2 : PA X es (tVs κ W q ms)) (hs : starEach (e :: es) X.env = (false, eval e X.env) :: starEach es X.env := by rfl) : PA X (e :: es) (tVs κ W (p && q) (mCons m ms)) :=
  pa_imp (pa_cons h1 h2 hs) fun σ H Q ⟨A, F, ρ, τ, υ, g, h⟩ =>
    ⟨A, F, ρ, τ, υ, g, h.bind.imp fun d ρ1 h v A1 F1 H1 s1 g1 r1 => ⟨A1, F1, ρ1, τ, υ, g1, (h.step s1.fr).bind.imp fun ds ρ2 h vs A2 F2 H2 s2 g2 r2 => h (v :: vs) A2 F2 H2 (s1.trans s2) g2 (.cons (r1.mono s2.fr.grow) r2)⟩⟩
theorem dV_tup {k : Nat} {ms : M (List D)} (h : PA X es (tVs κ W p ms)) : PE X (.Tuple es k pos) (tV κ W p (mTup ms)) := pe_imp (pe_tup h) fun σ H Q ⟨A, F, ρ, τ, υ, g, h⟩ =>
  ⟨A, F, ρ, τ, υ, g, h.bind.imp fun ds ρ' h vs A' F' H' s g' r => by
    split at h
    · rename_i hl
      refine ⟨by rw [r.length, ← lim_eq]; exact hl, fun a ha => ?_⟩
      obtain ⟨g2, f2⟩ := g'.share (.tup vs) ha
      exact h (.ref a) A' _ _ (s.then f2 (same_new ha) fun _ => rfl) g2 (.tup upd_same (r.mono f2.grow))
    · exact h.elim⟩
theorem dE_lst {ms : M (List D)} (h : PA X es (tVs κ W p ms)) : PE X (.List es pos) (tE κ W p (mLst ms)) := pe_imp (pe_lst h) fun σ H Q ⟨A, F, ρ, τ, υ, g, h⟩ =>
  ⟨A, F, ρ, τ, υ, g, h.bind.imp fun ds ρ' h vs A' F' H' s g' r => by
    split at h
    · rename_i hl
      refine ⟨by rw [r.length, ← lim_eq]; exact hl, fun a ha => ?_⟩
      obtain ⟨A2, F2, s2, g2⟩ := fin_lst g' ha r
      exact h (.ref a) A2 F2 _ ((s.trans s2).imp fun z => by rw [z]; rfl) g2
    · exact h.elim⟩
theorem Stp.srcs {p : Bool} {ρ ρ' : Env} {A A' : Fp} {F F' H H' : Hp} (s : Stp p ρ A F H ρ' A' F' H') : ∀ b, H b ≠ none → ∀ x, b ∈ A' x → ∃ y, b ∈ A y := fun b n x hx => by
  rcases s.fr.new x b hx with h | h
  · exact h
  · exact absurd h n
theorem Src.stay {κ : Kx} {p : Bool} {ρ ρ' : Env} {A A' : Fp} {F F' H H' : Hp} {z : Option Nat} {o : O} {v : V} {B : List Addr} (w : Own κ F H o v B) (sr : Src ρ A z B) (s : Stp p ρ A F H ρ' A' F' H') (q : p = true) : Src ρ' A' z B := by
  cases z with
  | some i =>
    intro b hb
    obtain ⟨h1, h2⟩ := sr b hb
    obtain ⟨h3, h4⟩ := (s.pu q).2 i h1
    exact ⟨h3, h4 b h2⟩
  | none =>
    intro b hb x hx
    obtain ⟨u, hu, _⟩ := w.there b hb
    obtain ⟨y, hy⟩ := s.srcs b (by rw [hu]; simp) x hx
    exact sr b hb y hy
theorem Src.sh {ρ : Env} {A : Fp} {z : Option Nat} : Src ρ A z [] := by
  cases z <;> intro b hb <;> simp at hb
theorem dBs_nil : PA X [] (tBs κ W true (mPure [])) := pa_imp pa_nil fun σ H Q ⟨A, F, ρ, τ, υ, g, h⟩ => h [] A F H .refl g .nil
theorem dBs_cons {m : M (Option Nat × O)} {ms : M (List (Option Nat × O))} (h1 : PE X e (tB κ W p m)) (h2 : PA X es (tBs κ W q ms)) (hs : starEach (e :: es) X.env = (false, eval e X.env) :: starEach es X.env := by rfl) : PA X (e :: es) (tBs κ W (p && q) (mConsB q m ms)) :=
  pa_imp (pa_cons h1 h2 hs) fun σ H Q ⟨A, F, ρ, τ, υ, g, h⟩ =>
    ⟨A, F, ρ, τ, υ, g, h.bind.imp fun x ρ1 h v B A1 F1 H1 s1 g1 w1 sr => by
      split at h
      · rename_i hc
        refine ⟨A1, F1, ρ1, τ, υ, g1, (h.step s1.fr).bind.imp fun xs ρ2 h vs A2 F2 H2 s2 g2 w2 => ?_⟩
        rcases Bool.or_eq_true_iff.mp hc with z | z
        · exact h (v :: vs) A2 F2 H2 (s1.trans s2) g2 (.cons (w1.mono s2.fr.grow fun b _ o e => (s2.pu z).1 b o e) (Src.stay w1 sr s2 z) w2)
        · obtain ⟨j, o⟩ := x
          obtain ⟨d, e, r⟩ := isSh_v z w1
          have e' : o = .sh d := e
          subst e'
          exact h (v :: vs) A2 F2 H2 (s1.trans s2) g2 (.cons (.fd (.sh (r.mono s2.fr.grow))) Src.sh w2)
      · exact h.elim⟩
end

/-! ### fields -/
/-- a program's classes: which fields are plain -/
def FieldsOk (κ : Kx) (tbl : Str → Str → Bool) : Prop := ∀ c f, tbl c f = true → ∀ C, κ.mg c = some (.ref C) → Cls κ.K C ∧ NoAttr κ.K C f
def lookD {α : Type} : List Str → List α → Str → Option α
  | n :: ns, v :: vs, f => if f = n then some v else lookD ns vs f
  | _, _, _ => none
/-- a field of what is looked at -/
def fieldOf (tbl : Str → Str → Bool) (f : Str) : Option Nat × O → M (Option Nat × O)
  | (_, .fd (.sh (.ob c ns vs))) => if tbl c f = true then match lookD ns vs f with
    | some d => mPure (none, .sh d)
    | none => fun _ => .bad
    else fun _ => .bad
  | (z, .rc (.ob c ns) fs) => if tbl c f = true then match lookD ns fs f with
    | some (.sh d) => mPure (none, .sh d)
    | some (.ct k) => mPure (z, .fd (.ct k))
    | none => fun _ => .bad
    else fun _ => .bad
  | _ => fun _ => .bad
theorem lookup_reps {κ : Kx} {F : Hp} {f : Str} {d : D} : ∀ {fs : List (Str × V)} {ds : List D}, Reps κ F (fs.map (·.2)) ds → lookD (fs.map (·.1)) ds f = some d → ∃ v, fs.lookup f = some v ∧ Rep κ F v d
  | [], _, _, e => by simp [lookD] at e
  | (n, v) :: fs, ds, r, e => by
    cases r with
    | cons h r =>
      simp only [List.map_cons, lookD] at e
      by_cases q : f = n
      · rw [if_pos q] at e
        cases e
        subst q
        exact ⟨v, by simp, h⟩
      · rw [if_neg q] at e
        obtain ⟨u, h1, h2⟩ := lookup_reps r e
        refine ⟨u, ?_, h2⟩
        have q' : (f == n) = false := by simpa using q
        rw [List.lookup_cons, q']
        exact h1
theorem lookup_owns {κ : Kx} {F H : Hp} {f : Str} {d : Fd} : ∀ {fs : List (Str × V)} {gs : List Fd} {T : List Addr}, OwnFs κ F H gs (fs.map (·.2)) T → lookD (fs.map (·.1)) gs f = some d → ∃ v S, fs.lookup f = some v ∧ OwnF κ F H d v S ∧ ∀ b ∈ S, b ∈ T
  | [], _, _, _, e => by simp [lookD] at e
  | (n, v) :: fs, ds, T, r, e => by
    cases r with
    | cons h r =>
      simp only [List.map_cons, lookD] at e
      by_cases q : f = n
      · rw [if_pos q] at e
        cases e
        subst q
        exact ⟨v, _, by simp, h, fun b hb => List.mem_append_left _ hb⟩
      · rw [if_neg q] at e
        obtain ⟨u, S, h1, h2, h3⟩ := lookup_owns r e
        refine ⟨u, S, ?_, h2, fun b hb => List.mem_append_right _ (h3 b hb)⟩
        have q' : (f == n) = false := by simpa using q
        rw [List.lookup_cons, q']
        exact h1
theorem Own.ob_v {κ : Kx} {F H : Hp} {c : Str} {ns : List Str} {gs : List Fd} {v : V} {B : List Addr} (w : Own κ F H (.rc (.ob c ns) gs) v B) :
    ∃ a C dx fs T, v = .ref a ∧ H a = some (.ins C dx fs) ∧ κ.mg c = some (.ref C) ∧ fs.map (·.1) = ns ∧ OwnFs κ F H gs (fs.map (·.2)) T ∧ B = a :: T := by
  cases w with
  | ob h m q => exact ⟨_, _, _, _, _, rfl, h, m, rfl, q, rfl⟩
theorem Own.dk_v {κ : Kx} {F H : Hp} {ks : List Key} {gs : List Fd} {v : V} {B : List Addr} (w : Own κ F H (.rc (.dk ks) gs) v B) :
    ∃ a kvs T, v = .ref a ∧ H a = some (.dK kvs) ∧ kvs.map (·.1) = ks ∧ OwnFs κ F H gs (kvs.map (·.2)) T ∧ B = a :: T := by
  cases w with
  | dk h q => exact ⟨_, _, _, rfl, h, rfl, q, rfl⟩
theorem OwnF.sh_v {κ : Kx} {F H : Hp} {d : D} {v : V} {B : List Addr} (w : OwnF κ F H (.sh d) v B) : Rep κ F v d := by
  cases w with
  | sh r => exact r
theorem Src.sub {ρ : Env} {A : Fp} {z : Option Nat} {B B' : List Addr} (h : Src ρ A z B) (s : ∀ b ∈ B', b ∈ B) : Src ρ A z B' := by
  cases z with
  | some i => exact fun b hb => h b (s b hb)
  | none => exact fun b hb => h b (s b hb)
section
variable {X : Cx} {W : WX'} {e : Expr} {p : Bool} {pos : Pos} {f : Str}
theorem dB_fld {tbl : Str → Str → Bool} {m : M (Option Nat × O)} (ht : FieldsOk (kx X) tbl) (h : PE X e (tB (kx X) W p m)) (hb : attributeBase e f X.env (eval e X.env) = eval e X.env := by rfl) : PE X (.Attribute e f pos) (tB (kx X) W p (mBind m (fieldOf tbl f))) :=
  pe_imp (pe_fld h hb) fun σ H Q ⟨A, F, ρ, τ, υ, g, h⟩ => by
    refine ⟨A, F, ρ, τ, υ, g, h.bind.imp fun x ρ1 h v B A1 F1 H1 s1 g1 w sr => ?_⟩
    unfold fieldOf at h
    split at h
    · rename_i z c ns vs
      split at h
      · rename_i e1
        cases e2 : lookD ns vs f with
        | none => rw [e2] at h; exact h.elim
        | some d =>
          rw [e2] at h
          obtain ⟨a, C, dx, fs, rfl, h1, h2, rfl, r⟩ := w.sh_v.ob_v
          obtain ⟨u, h3, h4⟩ := lookup_reps r e2
          obtain ⟨c1, c2⟩ := ht c f e1 C h2
          exact ⟨a, C, dx, fs, u, rfl, g1.fh _ _ h1, c1, c2, h3, h u [] A1 F1 H1 s1 g1 (.fd (.sh h4)) Src.sh⟩
      · exact h.elim
    · rename_i z c ns fs
      obtain ⟨a, C, dx, vfs, T, rfl, h1, h2, rfl, ws, hB⟩ := w.ob_v
      split at h
      · rename_i e1
        obtain ⟨c1, c2⟩ := ht c f e1 C h2
        cases e2 : lookD (vfs.map (·.1)) fs f with
        | none => rw [e2] at h; exact h.elim
        | some q =>
          rw [e2] at h
          obtain ⟨u, S, h3, h4, h5⟩ := lookup_owns ws e2
          cases q with
          | sh d => exact ⟨a, C, dx, vfs, u, rfl, h1, c1, c2, h3, h u [] A1 F1 H1 s1 g1 (.fd (.sh h4.sh_v)) Src.sh⟩
          | ct k => exact ⟨a, C, dx, vfs, u, rfl, h1, c1, c2, h3, h u S A1 F1 H1 s1 g1 (.fd h4) (sr.sub fun b hb => by rw [hB]; exact List.mem_cons_of_mem _ (h5 b hb))⟩
      · exact h.elim
    · exact h.elim
end

/-! ### subscripts -/
theorem pe_either {X : Cx} {e : Expr} {t u : TE} (h : PE X e t) (h' : PE X e u) : PE X e (fun σ H Q => t σ H Q ∨ u σ H Q) := ⟨fun pins s σ H Q I q => by
  rcases q with q | q
  · exact h.run pins s σ H Q I q
  · exact h'.run pins s σ H Q I q⟩
theorem pt_either {X : Cx} {e : Expr} {t u : TT} (h : PT X e t) (h' : PT X e u) : PT X e (fun σ H Q => t σ H Q ∨ u σ H Q) := ⟨fun pins s σ H Q I q => by
  rcases q with q | q
  · exact h.run pins s σ H Q I q
  · exact h'.run pins s σ H Q I q⟩
def keyD : D → Option Key
  | .int i => some (.inl i)
  | .str x => some (.inr x)
  | _ => none
def keysD : List D → Option (List Key)
  | [] => some []
  | d :: ds => match keyD d, keysD ds with
    | some k, some ks => some (k :: ks)
    | _, _ => none
def lookK {κ α : Type} [DecidableEq κ] : List κ → List α → κ → Option α
  | n :: ns, v :: vs, f => if n = f then some v else lookK ns vs f
  | _, _, _ => none
/-- an item by its place or key -/
def itemOf : Option Nat × O → D → Option (Option Nat × O)
  | (_, .fd (.ct (.lst xs))), .int i | (_, .fd (.sh (.lst xs))), .int i | (_, .fd (.sh (.tup xs))), .int i => match atI xs i with
    | some d => some (none, .sh d)
    | none => none
  | (_, .fd (.sh (.str z))), .int i => if z.length ≤ lim then match atI z.cps.toList i with
    | some c => some (none, .sh (.str ⟨#[c]⟩))
    | none => none else none
  | (_, .fd (.ct (.dk ks vs))), k | (_, .fd (.sh (.dk ks vs))), k => match keyD k with
    | some k => match lookK ks vs k with
      | some d => some (none, .sh d)
      | none => none
    | none => none
  | (z, .rc (.dk ks) fs), k => match keyD k with
    | some k => match lookK ks fs k with
      | some (.sh d) => some (none, .sh d)
      | some (.ct c) => some (z, .fd (.ct c))
      | none => none
    | none => none
  | (_, .fd (.ct (.dt ks vs))), .tup k | (_, .fd (.sh (.dt ks vs))), .tup k => match keysD k with
    | some k => match lookK ks vs k with
      | some d => some (none, .sh d)
      | none => none
    | none => none
  | _, _ => none
theorem key_v {κ : Kx} {F : Hp} {v : V} {d : D} {k : Key} (r : Rep κ F v d) (e : keyD d = some k) : v = kV k := by
  cases r <;> simp only [keyD] at e <;> first | (cases e; rfl) | cases e
theorem keys_v {κ : Kx} {F : Hp} : ∀ {vs : List V} {ds : List D} {ks : List Key}, Reps κ F vs ds → keysD ds = some ks → vs = ks.map kV
  | _, _, _, .nil, e => by simp only [keysD] at e; cases e; rfl
  | _, _, _, .cons h r, e => by
    simp only [keysD] at e
    split at e
    · rename_i k ks e1 e2
      cases e
      rw [key_v h e1, keys_v r e2]
      rfl
    · cases e
theorem val_reps {κ : Kx} {F : Hp} {ι : Type} [DecidableEq ι] {k : ι} : ∀ {kvs : List (ι × V)} {ds : List D}, Reps κ F (kvs.map (·.2)) ds →
    (∀ d, lookK (kvs.map (·.1)) ds k = some d → ∃ v, valV kvs k = some v ∧ Rep κ F v d) ∧ (lookK (kvs.map (·.1)) ds k = none → valV kvs k = none)
  | [], _, r => by cases r; exact ⟨fun d e => by simp [lookK] at e, fun _ => rfl⟩
  | (n, v) :: kvs, _, r => by
    cases r with
    | cons h r =>
      have ih := val_reps (k := k) r
      by_cases q : n = k
      · refine ⟨fun d e => ⟨v, ?_, ?_⟩, fun e => ?_⟩
        · simp [valV, q]
        · simp only [List.map_cons, lookK, if_pos q] at e; cases e; exact h
        · simp only [List.map_cons, lookK, if_pos q] at e; cases e
      · have e1 : valV ((n, v) :: kvs) k = valV kvs k := by simp [valV, q]
        refine ⟨fun d e => ?_, fun e => ?_⟩
        · simp only [List.map_cons, lookK, if_neg q] at e
          rw [e1]; exact ih.1 d e
        · simp only [List.map_cons, lookK, if_neg q] at e
          rw [e1]; exact ih.2 e
theorem val_owns {κ : Kx} {F H : Hp} {ι : Type} [DecidableEq ι] {k : ι} : ∀ {kvs : List (ι × V)} {gs : List Fd} {T : List Addr}, OwnFs κ F H gs (kvs.map (·.2)) T →
    (∀ d, lookK (kvs.map (·.1)) gs k = some d → ∃ v S, valV kvs k = some v ∧ OwnF κ F H d v S ∧ ∀ b ∈ S, b ∈ T) ∧ (lookK (kvs.map (·.1)) gs k = none → valV kvs k = none)
  | [], _, _, r => by cases r; exact ⟨fun d e => by simp [lookK] at e, fun _ => rfl⟩
  | (n, v) :: kvs, _, _, r => by
    cases r with
    | cons h r =>
      have ih := val_owns (k := k) r
      by_cases q : n = k
      · refine ⟨fun d e => ⟨v, _, ?_, ?_, fun b hb => List.mem_append_left _ hb⟩, fun e => ?_⟩
        · simp [valV, q]
        · simp only [List.map_cons, lookK, if_pos q] at e; cases e; exact h
        · simp only [List.map_cons, lookK, if_pos q] at e; cases e
      · have e1 : valV ((n, v) :: kvs) k = valV kvs k := by simp [valV, q]
        refine ⟨fun d e => ?_, fun e => ?_⟩
        · simp only [List.map_cons, lookK, if_neg q] at e
          obtain ⟨u, S, h1, h2, h3⟩ := ih.1 d e
          rw [e1]; exact ⟨u, S, h1, h2, fun b hb => List.mem_append_right _ (h3 b hb)⟩
        · simp only [List.map_cons, lookK, if_neg q] at e
          rw [e1]; exact ih.2 e
theorem atI_map {α : Type} {xs : List α} {i : Int} {d : α} (h : atI xs i = some d) : ∃ j : Nat, xs[j]? = some d ∧ ∀ {β : Type} {ys : List β} {y : β}, ys.length = xs.length → ys[j]? = some y → atI ys i = some y := by
  unfold atI at h
  cases e : ixN xs.length i with
  | none => rw [e] at h; cases h
  | some j =>
    rw [e] at h
    refine ⟨j, h, fun {β ys y} hl hy => ?_⟩
    unfold atI
    rw [hl, e]
    exact hy
theorem Reps.at {κ : Kx} {F : Hp} {vs : List V} {ds : List D} {i : Int} {d : D} (r : Reps κ F vs ds) (h : atI ds i = some d) : ∃ v, atI vs i = some v ∧ Rep κ F v d := by
  obtain ⟨j, h1, h2⟩ := atI_map h
  obtain ⟨v, h3, h4⟩ := r.get j h1
  exact ⟨v, h2 r.length h3, h4⟩

def isDict : O → Bool
  | .fd (.ct (.dk _ _)) | .fd (.sh (.dk _ _)) | .fd (.ct (.dt _ _)) | .fd (.sh (.dt _ _)) | .rc (.dk _) _ => true
  | _ => false
/-- what a dict holds: by the denotation -/
theorem dget_of {κ : Kx} {A : Fp} {F H : Hp} {ρ : Env} {σ : L2.St} {τ : List O} {υ : List V} (g : G κ A F H ρ σ τ υ) {z : Option Nat} {o : O} {v : V} {B : List Addr} (w : Own κ F H o v B) (sr : Src ρ A z B) {y : V} {k : D} (ry : Rep κ H y k) (hd : isDict o = true)
    {x : Option Nat × O} (e : itemOf (z, o) k = some x) : ∃ a u S, v = .ref a ∧ DGet H a y (some u) ∧ Own κ F H x.2 u S ∧ Src ρ A x.1 S := by
  unfold isDict at hd
  split at hd
  · rename_i ks vs
    cases w with
    | fd w =>
      cases w with
      | @ct c a q =>
        obtain ⟨kvs, h1, rfl, r⟩ := q
        simp only [itemOf] at e
        split at e
        · rename_i k' ek
          split at e
          · rename_i d ed
            cases e
            obtain ⟨u, h2, h3⟩ := (val_reps r).1 d ed
            exact ⟨a, u, [], rfl, .inl ⟨kvs, k', .inl h1, key_v ry ek, h2.symm⟩, .fd (.sh h3), Src.sh⟩
          · cases e
        · cases e
  · rename_i ks vs
    obtain ⟨a, kvs, rfl, h1, rfl, r⟩ := w.sh_v.dk_v
    simp only [itemOf] at e
    split at e
    · rename_i k' ek
      split at e
      · rename_i d ed
        cases e
        obtain ⟨u, h2, h3⟩ := (val_reps r).1 d ed
        exact ⟨a, u, [], rfl, .inl ⟨kvs, k', .inl (g.fh _ _ h1), key_v ry ek, h2.symm⟩, .fd (.sh h3), Src.sh⟩
      · cases e
    · cases e
  · rename_i ks vs
    cases w with
    | fd w =>
      cases w with
      | @ct c a q =>
        obtain ⟨kvs, h1, rfl, r⟩ := q
        cases k <;> simp only [itemOf] at e
        case tup kd =>
          split at e
          · rename_i k' ek
            split at e
            · rename_i d ed
              cases e
              obtain ⟨u, h2, h3⟩ := (val_reps r).1 d ed
              obtain ⟨b, bs, rfl, h4, h5⟩ := ry.tup_v
              have h6 := keys_v h5 ek
              exact ⟨a, u, [], rfl, .inr ⟨kvs, k', b, .inl h1, rfl, by rw [h4, h6], h2.symm⟩, .fd (.sh h3), Src.sh⟩
            · cases e
          · cases e
        all_goals cases e
  · rename_i ks vs
    obtain ⟨a, kvs, rfl, h1, rfl, r⟩ := w.sh_v.dt_v
    cases k <;> simp only [itemOf] at e
    case tup kd =>
      split at e
      · rename_i k' ek
        split at e
        · rename_i d ed
          cases e
          obtain ⟨u, h2, h3⟩ := (val_reps r).1 d ed
          obtain ⟨b, bs, rfl, h4, h5⟩ := ry.tup_v
          have h6 := keys_v h5 ek
          exact ⟨a, u, [], rfl, .inr ⟨kvs, k', b, .inl (g.fh _ _ h1), rfl, by rw [h4, h6], h2.symm⟩, .fd (.sh h3), Src.sh⟩
        · cases e
      · cases e
    all_goals cases e
  · rename_i ks fs
    obtain ⟨a, kvs, T, rfl, h1, rfl, ws, hB⟩ := w.dk_v
    simp only [itemOf] at e
    split at e
    · rename_i k' ek
      split at e
      · rename_i d ed
        cases e
        obtain ⟨u, S, h2, h3, h4⟩ := (val_owns ws).1 _ ed
        exact ⟨a, u, [], rfl, .inl ⟨kvs, k', .inl h1, key_v ry ek, h2.symm⟩, .fd (.sh h3.sh_v), Src.sh⟩
      · rename_i c ed
        cases e
        obtain ⟨u, S, h2, h3, h4⟩ := (val_owns ws).1 _ ed
        exact ⟨a, u, S, rfl, .inl ⟨kvs, k', .inl h1, key_v ry ek, h2.symm⟩, .fd h3, sr.sub fun b hb => by rw [hB]; exact List.mem_cons_of_mem _ (h4 b hb)⟩
      · cases e
    · cases e
  · cases hd
/-- an item of a row, a sign of a text -/
theorem item_of {κ : Kx} {A : Fp} {F H : Hp} {ρ : Env} {σ : L2.St} {τ : List O} {υ : List V} (g : G κ A F H ρ σ τ υ) {z : Option Nat} {o : O} {v : V} {B : List Addr} (w : Own κ F H o v B) {y : V} {k : D} (ry : Rep κ H y k) (hd : isDict o = false)
    {x : Option Nat × O} (e : itemOf (z, o) k = some x) {Q : VK} (q : ∀ u S, Own κ F H x.2 u S → Src ρ A x.1 S → Q u H) : rIx κ.K v y H Q := by
  unfold itemOf at e
  split at e
  · rename_i xs i e1
    split at e
    · rename_i d ed
      cases e
      obtain ⟨a, vs, rfl, h1, r⟩ := w.lst_v (by cases e1; rfl) g.fh
      obtain ⟨u, h2, h3⟩ := r.at ed
      exact .inl ⟨a, vs, i, u, rfl, ry.int_v, SqL.of h1, h2, q u [] (.fd (.sh h3)) Src.sh⟩
    · cases e
  · rename_i xs i e1
    split at e
    · rename_i d ed
      cases e
      obtain ⟨a, vs, rfl, h1, r⟩ := w.lst_v (by cases e1; rfl) g.fh
      obtain ⟨u, h2, h3⟩ := r.at ed
      exact .inl ⟨a, vs, i, u, rfl, ry.int_v, SqL.of h1, h2, q u [] (.fd (.sh h3)) Src.sh⟩
    · cases e
  · rename_i xs i e1
    split at e
    · rename_i d ed
      cases e
      obtain ⟨a, vs, rfl, h1, r⟩ := w.tup_v (by cases e1; rfl)
      obtain ⟨u, h2, h3⟩ := r.at ed
      exact .inr (.inl ⟨a, vs, i, u, rfl, ry.int_v, SqT.of (g.fh _ _ h1), h2, q u [] (.fd (.sh h3)) Src.sh⟩)
    · cases e
  · rename_i zz i e1
    split at e
    · rename_i hl
      split at e
      · rename_i c ec
        cases e
        exact .inr (.inr ⟨zz, i, c, w.str_v (by cases e1; rfl) g.fh, ry.int_v, lim_eq ▸ hl, ec, q _ [] (.fd (.sh (.str _))) Src.sh⟩)
      · cases e
    · cases e
  all_goals first
    | (rename_i e1; cases e1; cases hd)
    | cases e
theorem borrow_stay {κ : Kx} {ρ1 ρ2 : Env} {A1 A2 : Fp} {F1 F2 H1 H2 : Hp} {pb : Bool} {z : Option Nat} {o : O} {v : V} {B : List Addr} (hc : (pb || isSh o) = true) (w : Own κ F1 H1 o v B) (sr : Src ρ1 A1 z B) (s : Stp pb ρ1 A1 F1 H1 ρ2 A2 F2 H2) : ∃ B', Own κ F2 H2 o v B' ∧ Src ρ2 A2 z B' := by
  rcases Bool.or_eq_true_iff.mp hc with q | q
  · exact ⟨B, w.mono s.fr.grow fun b _ o e => (s.pu q).1 b o e, Src.stay w sr s q⟩
  · obtain ⟨d, rfl, r⟩ := isSh_v q w
    exact ⟨[], .fd (.sh (r.mono s.fr.grow)), Src.sh⟩
def mSub (pb : Bool) (ma : M (Option Nat × O)) (mb : M D) : M (Option Nat × O) := mBind ma fun x => if pb || isSh x.2 then mBind mb fun k => match itemOf x k with
  | some y => mPure y
  | none => fun _ => .bad
  else fun _ => .bad
section
variable {X : Cx} {W : WX'} {a b : Expr} {pa pb : Bool} {ma : M (Option Nat × O)} {mb : M D} {pos : Pos}
theorem tSub_of {κ : Kx} {r : R2} (P : O → Prop) {σ : L2.St} {H : Hp} {Q : VK}
    (hr : ∀ (A : Fp) (F H : Hp) (ρ : Env) (σ : L2.St) (τ : List O) (υ : List V), G κ A F H ρ σ τ υ → ∀ (z : Option Nat) (o : O) (v : V) (B : List Addr), Own κ F H o v B → Src ρ A z B → P o → ∀ (y : V) (k : D), Rep κ H y k → ∀ x, itemOf (z, o) k = some x → ∀ Q : VK, (∀ u S, Own κ F H x.2 u S → Src ρ A x.1 S → Q u H) → r v y H Q)
    {A : Fp} {F : Hp} {ρ : Env} {τ : List O} {υ : List V} (g : G κ A F H ρ σ τ υ) (hP : ∀ x ρ1, ma ρ = .ok x ρ1 → P x.2)
    (h : Wp κ W A F H σ τ υ (mSub pb ma mb ρ) fun r ρ' => ∀ v B A' F' H', Stp (pa && pb) ρ A F H ρ' A' F' H' → G κ A' F' H' ρ' σ τ υ → Own κ F' H' r.2 v B → Src ρ' A' r.1 B → Q v H') : tOp r (tB κ W pa ma) (tV κ W pb mb) σ H Q := by
  refine ⟨A, F, ρ, τ, υ, g, ?_⟩
  have h1 := h.bind
  cases e1 : ma ρ with
  | bad => rw [e1] at h1; exact h1.elim
  | exc d ρ1 => rw [e1] at h1; exact h1
  | ok x ρ1 =>
    rw [e1] at h1
    intro v1 B1 A1 F1 H1 f1 g1 w1 sr
    have h2 : Wp κ W A F H σ τ υ ((if pb || isSh x.2 then mBind mb fun k => match itemOf x k with
  | some y => mPure y
  | none => fun _ => .bad
  else fun _ => .bad) ρ1) _ := h1
    split at h2
    · rename_i hc
      refine ⟨A1, F1, ρ1, τ, υ, g1, (h2.step f1.fr).bind.imp fun k ρ2 h v2 A2 F2 H2 f2 g2 r2 => ?_⟩
      obtain ⟨B', w2, sr2⟩ := borrow_stay hc w1 sr f2
      cases e3 : itemOf x k with
      | none => rw [e3] at h; exact h.elim
      | some y =>
        rw [e3] at h
        exact hr A2 F2 H2 ρ2 σ τ υ g2 x.1 x.2 v1 B' w2 sr2 (hP x ρ1 e1) v2 k (r2.mono g2.fh) y e3 Q fun u S w3 s3 => h u S A2 F2 H2 (f1.trans f2) g2 w3 s3
    · exact h2.elim
/-- a[b], the row, the text or the dict looked at -/
theorem dB_sub (hu : X.A.units + 1 < cLine) (ha : PE X a (tB (kx X) W pa ma)) (hb : PE X b (tV (kx X) W pb mb)) (hs : PlainIx b) (hs' : NoSl b) : PE X (.Subscript a b pos) (tB (kx X) W (pa && pb) (mSub pb ma mb)) :=
  pe_imp (pe_either (pe_ix ix_seq ha hb hs) (pe_dget hu ha hb hs')) fun σ H Q ⟨A, F, ρ, τ, υ, g, h⟩ => by
    by_cases hd : ∀ x ρ1, ma ρ = .ok x ρ1 → isDict x.2 = false
    · exact .inl (tSub_of (fun o => isDict o = false) (fun A F H ρ σ τ υ g z o v B w sr hp y k ry x e Q q => item_of g w ry hp e q) g hd h)
    · have hd' : ∀ x ρ1, ma ρ = .ok x ρ1 → isDict x.2 = true := fun x ρ1 e => by
        cases q : isDict x.2 with
        | true => rfl
        | false => exact absurd (fun x' ρ' e' => by rw [e] at e'; cases e'; exact q) hd
      exact .inr (tSub_of (r := fun x y H Q => ∃ a v, x = .ref a ∧ DGet H a y (some v) ∧ Q v H) (fun o => isDict o = true) (fun A F H ρ σ τ υ g z o v B w sr hp y k ry x e Q q => by
        obtain ⟨a, u, S, h1, h2, h3, h4⟩ := dget_of g w sr ry hp e
        exact ⟨a, u, h1, h2, q u S h3 h4⟩) g hd' h)
end

/-! ### tests -/
def mAndT (m n : M Bool) : M Bool := mBind m fun b => if b then n else mPure false
def mOrT (m n : M Bool) : M Bool := mBind m fun b => if b then mPure true else n
section
variable {X : Cx} {κ : Kx} {W : WX'} {a b c : Expr} {rest : List Expr} {p q : Bool} {pos : Pos} {m n : M Bool}
theorem dT_not (h : PT X a (tT κ W p m)) : PT X (.UnaryOp .Not a pos) (tT κ W p (mMap (!·) m)) := pt_imp (pt_not h) fun σ H Q ⟨A, F, ρ, τ, υ, g, h⟩ =>
  ⟨A, F, ρ, τ, υ, g, h.map.imp fun b ρ' h A' F' H' s g' => h A' F' H' s g'⟩
theorem dT_and1 (h : PT X a (tT κ W p m)) : PW X (.BoolOp .And [a] pos) (tT κ W p m) := pw_and1 h
theorem dT_or1 (h : PT X a (tT κ W p m)) : PW X (.BoolOp .Or [a] pos) (tT κ W p m) := pw_or1 h
theorem pw_imp {e : Expr} {t t' : TT} (h : PW X e t) (i : ∀ σ H Q, t' σ H Q → t σ H Q) : PW X e t' := ⟨fun wh pins s σ H Q I q => h.run wh pins s σ H Q I (i σ H Q q)⟩
theorem dT_and (h1 : PT X a (tT κ W p m)) (h2 : PW X (.BoolOp .And (b :: rest) pos) (tT κ W q n)) : PW X (.BoolOp .And (a :: b :: rest) pos) (tT κ W (p && q) (mAndT m n)) :=
  pw_imp (pw_and h1 h2) fun σ H Q ⟨A, F, ρ, τ, υ, g, h⟩ => ⟨A, F, ρ, τ, υ, g, h.bind.imp fun c ρ1 h A1 F1 H1 s1 g1 => by
    cases c with
    | true => exact ⟨A1, F1, ρ1, τ, υ, g1, (h.step s1.fr).imp fun r ρ2 h A2 F2 H2 s2 g2 => h A2 F2 H2 (s1.trans s2) g2⟩
    | false => exact h A1 F1 H1 (s1.imp fun z => (Bool.and_eq_true_iff.mp z).1) g1⟩
theorem dT_or (h1 : PT X a (tT κ W p m)) (h2 : PW X (.BoolOp .Or (b :: rest) pos) (tT κ W q n)) : PW X (.BoolOp .Or (a :: b :: rest) pos) (tT κ W (p && q) (mOrT m n)) :=
  pw_imp (pw_or h1 h2) fun σ H Q ⟨A, F, ρ, τ, υ, g, h⟩ => ⟨A, F, ρ, τ, υ, g, h.bind.imp fun c ρ1 h A1 F1 H1 s1 g1 => by
    cases c with
    | false => exact ⟨A1, F1, ρ1, τ, υ, g1, (h.step s1.fr).imp fun r ρ2 h A2 F2 H2 s2 g2 => h A2 F2 H2 (s1.trans s2) g2⟩
    | true => exact h A1 F1 H1 (s1.imp fun z => (Bool.and_eq_true_iff.mp z).1) g1⟩
def mBl (m : M O) : M Bool := mBind m fun o => match o with
  | .fd (.sh (.bl b)) => mPure b
  | _ => fun _ => .bad
theorem bl_top {A : Fp} {F H : Hp} {ρ : Env} {σ : L2.St} {τ : List O} {υ : List V} {b : Bool} {v : V} (g : G κ A F H ρ σ (τ ++ [.sh (.bl b)]) (υ ++ [v])) : v = .bl b ∧ ∃ A', G κ A' F H ρ σ τ υ ∧ Stp true ρ A F H ρ A' F H := by
  obtain ⟨g2, w, f2⟩ := g.pop
  exact ⟨w.sh_v.bl_v, _, g2, Stp.refl.then f2 (Same.refl _) fun i => upA_t i⟩
/-- a comparison as a test -/
theorem dT_cmp {op : CmpOp} {r : R2} {f : D → D → Option O} {ma mb : M (Option Nat × O)} {pa pb : Bool} (ho : OpR X (compareOp op) r) (hs : Op2 κ r f) (ha : PE X a (tB κ W pa ma)) (hb : PE X b (tB κ W pb mb)) (hm : behindInMarks op b = false) : PT X (.Compare a [op] [b] pos) (tT κ W (pa && pb) (mBl (mOp2 pb f ma mb))) :=
  pt_imp (pt_cmpR ho ha hb hm) fun σ H Q ⟨A, F, ρ, τ, υ, g, h⟩ => tOp_of hs ⟨A, F, ρ, τ, υ, g, h.bind.imp fun o ρ' h v A' F' H' s g' => by
    split at h
    · rename_i b
      obtain ⟨rfl, A2, g2, s2⟩ := bl_top g'
      exact ⟨b, rfl, h A2 F' H' ((s.trans s2).imp fun z => by rw [z]; rfl) g2⟩
    · exact h.elim⟩
/-- a if t else b -/
def mIf {α : Type} (t : M Bool) (m n : M α) : M α := mBind t fun b => if b then m else n
theorem dV_if {pt : Bool} {t : M Bool} {m n : M D} (ht : PT X c (tT κ W pt t)) (ha : PE X a (tV κ W p m)) (hb : PE X b (tV κ W q n)) : PE X (.IfExp c a b pos) (tV κ W (pt && (p && q)) (mIf t m n)) :=
  pe_imp (pe_ifExp ht ha hb) fun σ H Q ⟨A, F, ρ, τ, υ, g, h⟩ => ⟨A, F, ρ, τ, υ, g, h.bind.imp fun c ρ1 h A1 F1 H1 s1 g1 => by
    cases c with
    | true => exact ⟨A1, F1, ρ1, τ, υ, g1, (h.step s1.fr).imp fun r ρ2 h v A2 F2 H2 s2 g2 => h v A2 F2 H2 ((s1.trans s2).imp fun z => by simp at z; simp [z]) g2⟩
    | false => exact ⟨A1, F1, ρ1, τ, υ, g1, (h.step s1.fr).imp fun r ρ2 h v A2 F2 H2 s2 g2 => h v A2 F2 H2 ((s1.trans s2).imp fun z => by simp at z; simp [z]) g2⟩⟩
theorem dE_if {pt : Bool} {t : M Bool} {m n : M O} (ht : PT X c (tT κ W pt t)) (ha : PE X a (tE κ W p m)) (hb : PE X b (tE κ W q n)) : PE X (.IfExp c a b pos) (tE κ W (pt && (p && q)) (mIf t m n)) :=
  pe_imp (pe_ifExp ht ha hb) fun σ H Q ⟨A, F, ρ, τ, υ, g, h⟩ => ⟨A, F, ρ, τ, υ, g, h.bind.imp fun c ρ1 h A1 F1 H1 s1 g1 => by
    cases c with
    | true => exact ⟨A1, F1, ρ1, τ, υ, g1, (h.step s1.fr).imp fun r ρ2 h v A2 F2 H2 s2 g2 => h v A2 F2 H2 ((s1.trans s2).imp fun z => by simp at z; simp [z]) g2⟩
    | false => exact ⟨A1, F1, ρ1, τ, υ, g1, (h.step s1.fr).imp fun r ρ2 h v A2 F2 H2 s2 g2 => h v A2 F2 H2 ((s1.trans s2).imp fun z => by simp at z; simp [z]) g2⟩⟩
/-- and, or, not as values: bools -/
def mAndV (m n : M D) : M D := mBind m fun d => match d with
  | .bl b => if b then n else mPure (.bl false)
  | _ => fun _ => .bad
def mOrV (m n : M D) : M D := mBind m fun d => match d with
  | .bl b => if b then mPure (.bl true) else n
  | _ => fun _ => .bad
theorem dV_one {op : BoolOp} {m : M D} (h : PE X a (tV κ W p m)) : PE X (.BoolOp op [a] pos) (tV κ W p m) := pe_one h
theorem dV_and {m n : M D} (h1 : PE X a (tV κ W p m)) (h2 : PE X (.BoolOp .And (b :: rest) pos) (tV κ W q n)) : PE X (.BoolOp .And (a :: b :: rest) pos) (tV κ W (p && q) (mAndV m n)) :=
  pe_imp (pe_and h1 h2) fun σ H Q ⟨A, F, ρ, τ, υ, g, h⟩ => ⟨A, F, ρ, τ, υ, g, h.bind.imp fun d ρ1 h v A1 F1 H1 s1 g1 r1 => by
    split at h
    · rename_i c
      refine ⟨c, r1.bl_v, ?_⟩
      cases c with
      | true => exact ⟨A1, F1, ρ1, τ, υ, g1, (h.step s1.fr).imp fun r ρ2 h v A2 F2 H2 s2 g2 => h v A2 F2 H2 (s1.trans s2) g2⟩
      | false => exact h _ A1 F1 H1 (s1.imp fun z => (Bool.and_eq_true_iff.mp z).1) g1 (.bl _)
    · exact h.elim⟩
theorem dV_or {m n : M D} (h1 : PE X a (tV κ W p m)) (h2 : PE X (.BoolOp .Or (b :: rest) pos) (tV κ W q n)) : PE X (.BoolOp .Or (a :: b :: rest) pos) (tV κ W (p && q) (mOrV m n)) :=
  pe_imp (L2.pe_or h1 h2) fun σ H Q ⟨A, F, ρ, τ, υ, g, h⟩ => ⟨A, F, ρ, τ, υ, g, h.bind.imp fun d ρ1 h v A1 F1 H1 s1 g1 r1 => by
    split at h
    · rename_i c
      refine ⟨c, r1.bl_v, ?_⟩
      cases c with
      | false => exact ⟨A1, F1, ρ1, τ, υ, g1, (h.step s1.fr).imp fun r ρ2 h v A2 F2 H2 s2 g2 => h v A2 F2 H2 (s1.trans s2) g2⟩
      | true => exact h _ A1 F1 H1 (s1.imp fun z => (Bool.and_eq_true_iff.mp z).1) g1 (.bl _)
    · exact h.elim⟩
end

/-! ### truth -/
def truD : D → Option Bool
  | .non => some false
  | .bl b => some b
  | .int i => some (i != 0)
  | .str x => if x.length ≤ lim then some ((x.length : Int) != 0) else none
  | .tup xs => some (!xs.isEmpty)
  | .lst xs => some (!xs.isEmpty)
  | .dk ks vs => some (!vs.isEmpty)
  | _ => none
theorem Reps.isEmpty {κ : Kx} {F : Hp} {vs : List V} {ds : List D} (r : Reps κ F vs ds) : vs.isEmpty = ds.isEmpty := by cases r <;> rfl
theorem tru_of {κ : Kx} {H : Hp} {v : V} {d : D} {k : Bool} (r : Rep κ H v d) (e : truD d = some k) : TruV κ.K v H k := by
  cases r with
  | non => cases e; rfl
  | bl b => cases e; rfl
  | int i => cases e; rfl
  | str x =>
    simp only [truD] at e
    split at e
    · rename_i hl
      cases e
      exact ⟨lim_eq ▸ hl, rfl⟩
    · cases e
  | tup h r =>
    simp only [truD] at e
    cases e
    exact .inr (.inl ⟨_, SqT.of h, by rw [r.isEmpty]⟩)
  | lst h r =>
    simp only [truD] at e
    cases e
    exact .inl ⟨_, SqL.of h, by rw [r.isEmpty]⟩
  | fz h r => cases e
  | dk h r =>
    simp only [truD] at e
    cases e
    refine .inr (.inr ⟨_, h, ?_⟩)
    rw [← r.isEmpty]
    simp
  | dt _ _ => cases e
  | ob _ _ _ => cases e
def mTru (m : M (Option Nat × O)) : M Bool := mBind m fun x => match truD x.2.toD with
  | some b => mPure b
  | none => fun _ => .bad
section
variable {X : Cx} {W : WX'} {e : Expr} {p : Bool} {pos : Pos} {m : M (Option Nat × O)}
/-- any value as a test -/
theorem dT_tru (h : PE X e (tB (kx X) W p m)) (he : ∀ whole, isTrue e X.env whole = (do let v ← whole; standAt e.pos; holding [v] (truthy v)) := by intro _; rfl) : PT X e (tT (kx X) W p (mTru m)) :=
  pt_imp (pt_truth h he) fun σ H Q ⟨A, F, ρ, τ, υ, g, h⟩ => ⟨A, F, ρ, τ, υ, g, h.bind.imp fun x ρ1 h v B A1 F1 H1 s1 g1 w _ => by
    cases q : truD x.2.toD with
    | none => rw [q] at h; exact h.elim
    | some b =>
      rw [q] at h
      exact ⟨b, tru_of (w.repH g1.fh) q, h A1 F1 H1 s1 g1⟩⟩
theorem dV_not (h : PE X e (tB (kx X) W p m)) : PE X (.UnaryOp .Not e pos) (tV (kx X) W p (mMap (fun b => .bl (!b)) (mTru m))) :=
  pe_imp (pe_notT h) fun σ H Q ⟨A, F, ρ, τ, υ, g, h⟩ => ⟨A, F, ρ, τ, υ, g, h.map.bind.imp fun x ρ1 h v B A1 F1 H1 s1 g1 w _ => by
    cases q : truD x.2.toD with
    | none => rw [q] at h; exact h.elim
    | some b =>
      rw [q] at h
      exact ⟨b, tru_of (w.repH g1.fh) q, h _ A1 F1 H1 s1 g1 (.bl _)⟩⟩
def mNeg (m : M D) : M D := mBind m fun d => match d with
  | .int i => mPure (.int (-i))
  | _ => fun _ => .bad
theorem dV_neg {κ : Kx} {m : M D} (h : PE X e (tV κ W p m)) : PE X (.UnaryOp .USub e pos) (tV κ W p (mNeg m)) :=
  pe_imp (pe_un un_neg h) fun σ H Q ⟨A, F, ρ, τ, υ, g, h⟩ => ⟨A, F, ρ, τ, υ, g, h.bind.imp fun d ρ1 h v A1 F1 H1 s1 g1 r => by
    split at h
    · exact ⟨_, r.int_v, h _ A1 F1 H1 s1 g1 (.int _)⟩
    · exact h.elim⟩
end
end DL

end

section
set_option Elab.async false
set_option linter.all false
set_option maxRecDepth 100000
/-! DL, part E: slices, built-in functions. -/
namespace DL
open PySem L2

/-! ### slices -/
def cutL {α : Type} (xs : List α) (lo hi : Option Int) : List α := (xs.drop (HT.sIx xs.length 0 lo)).take (HT.sIx xs.length xs.length hi - HT.sIx xs.length 0 lo)
theorem Reps.cut {κ : Kx} {F : Hp} {vs : List V} {ds : List D} (r : Reps κ F vs ds) (lo hi : Option Int) : Reps κ F (cutV vs lo hi) (cutL ds lo hi) := by
  unfold cutV cutL
  rw [r.length]
  exact (r.drop _).take _
def sliceD (d : D) (lo hi : Option Int) : Option O := match d with
  | .lst xs => some (.lst (cutL xs lo hi))
  | .tup xs => some (.sh (.tup (cutL xs lo hi)))
  | .str z => if z.length ≤ lim then some (.sh (.str (cutS z lo hi))) else none
  | _ => none
def rSliceA (K : PySem.W.Frag) : V → Option Int → Option Int → Hp → VK → Prop := fun x lo hi H Q => rSlL K x lo hi H Q ∨ rSlA K x lo hi H Q ∨ rSlS x lo hi H Q
theorem sl_any {X : Cx} : SlR X (rSliceA X.K) := sl_list.or (sl_tupA.or sl_str)
theorem cut_whole {α : Type} {xs : List α} {lo hi : Option Int} (h : HT.sIx xs.length 0 lo = 0 ∧ HT.sIx xs.length xs.length hi = xs.length) : cutL xs lo hi = xs := by
  unfold cutL
  rw [h.1, h.2]
  simp
theorem slice_sem {κ : Kx} {A : Fp} {F H : Hp} {ρ : Env} {σ : L2.St} {τ : List O} {υ : List V} (g : G κ A F H ρ σ τ υ) {o : O} {v : V} {B : List Addr} (w : Own κ F H o v B) {lo hi : Option Int} {u : O} (e : sliceD o.toD lo hi = some u)
    {Q : VK} (q : ∀ v H', Fin κ A F H ρ σ τ υ u v H' → Q v H') : rSliceA κ.K v lo hi H Q := by
  unfold sliceD at e
  split at e
  · rename_i xs e1
    cases e
    obtain ⟨a, vs, rfl, h1, r⟩ := w.lst_v e1 g.fh
    exact .inl ⟨a, vs, rfl, SqL.of h1, fun p hp => q _ _ (fin_lst g hp (r.cut lo hi))⟩
  · rename_i xs e1
    cases e
    obtain ⟨a, vs, rfl, h1, r⟩ := w.tup_v e1
    refine .inr (.inl ⟨a, vs, rfl, SqT.of (g.fh _ _ h1), fun hw => ?_, fun _ p hp => q _ _ (fin_tup g hp (r.cut lo hi))⟩)
    rw [r.length] at hw
    refine q (.ref a) H ?_
    rw [cut_whole hw]
    exact fin_sh g (.tup h1 r)
  · rename_i z e1
    split at e
    · rename_i hl
      cases e
      exact .inr (.inr ⟨z, w.str_v e1 g.fh, lim_eq ▸ hl, q _ _ (fin_sh g (.str _))⟩)
    · cases e
  · cases e
/-- a part of a slice -/
def tI (κ : Kx) (W : WX') (p : Bool) (m : M (Option Int)) : TO := fun σ H Q => ∃ A F ρ τ υ, G κ A F H ρ σ τ υ ∧ Wp κ W A F H σ τ υ (m ρ) fun i ρ' => ∀ A' F' H', Stp p ρ A F H ρ' A' F' H' → G κ A' F' H' ρ' σ τ υ → Q i H'
def mPart (m : M D) : M (Option Int) := mBind m fun d => match d with
  | .int i => mPure (some i)
  | _ => fun _ => .bad
def mSlice (pl ph : Bool) (ma : M (Option Nat × O)) (ml mh : M (Option Int)) : M O := mBind ma fun x => if (pl && ph) || isSh x.2 then mBind ml fun lo => mBind mh fun hi => match sliceD x.2.toD lo hi with
  | some o => mPure o
  | none => fun _ => .bad
  else fun _ => .bad
section
variable {X : Cx} {W : WX'} {e : Expr} {lo hi : Option Expr} {p pl ph : Bool} {pos p2 : Pos}
theorem po_imp {e : Option Expr} {t t' : TO} (h : PO X e t) (i : ∀ σ H Q, t' σ H Q → t σ H Q) : PO X e t' := by
  obtain ⟨r⟩ := h
  exact ⟨by
    intro pins s σ H Q I q
    exact r pins s σ H Q I (i σ H Q q)⟩
theorem dI_none {κ : Kx} : PO X none (tI κ W true (mPure none)) := po_imp po_none fun σ H Q ⟨A, F, ρ, τ, υ, g, h⟩ => h A F H .refl g
theorem dI_some {κ : Kx} {m : M D} (h : PE X e (tV κ W p m)) : PO X (some e) (tI κ W p (mPart m)) := po_imp (po_some h) fun σ H Q ⟨A, F, ρ, τ, υ, g, h⟩ => ⟨A, F, ρ, τ, υ, g, h.bind.imp fun d ρ' h v A' F' H' s g' r => by
  split at h
  · exact ⟨_, r.int_v, h A' F' H' s g'⟩
  · exact h.elim⟩
theorem dE_slice {ma : M (Option Nat × O)} {ml mh : M (Option Int)} (ha : PE X e (tB (kx X) W p ma)) (hl : PO X lo (tI (kx X) W pl ml)) (hh : PO X hi (tI (kx X) W ph mh)) : PE X (.Subscript e (.Slice lo hi none p2) pos) (tE (kx X) W (p && (pl && ph)) (mSlice pl ph ma ml mh)) :=
  pe_imp (pe_slice sl_any ha hl hh) fun σ H Q ⟨A, F, ρ, τ, υ, g, h⟩ => ⟨A, F, ρ, τ, υ, g, h.bind.imp fun x ρ1 h v B A1 F1 H1 s1 g1 w sr => by
    split at h
    · rename_i hc
      refine ⟨A1, F1, ρ1, τ, υ, g1, (h.step s1.fr).bind.imp fun lo ρ2 h A2 F2 H2 s2 g2 => ?_⟩
      refine ⟨A2, F2, ρ2, τ, υ, g2, (h.step s2.fr).bind.imp fun hi ρ3 h A3 F3 H3 s3 g3 => ?_⟩
      obtain ⟨B', w3, _⟩ := borrow_stay hc w sr (s2.trans s3)
      cases e3 : sliceD x.2.toD lo hi with
      | none => rw [e3] at h; exact h.elim
      | some o =>
        rw [e3] at h
        exact slice_sem g3 w3 e3 fun v H4 ⟨A4, F4, s4, g4⟩ => h v A4 F4 H4 (((s1.trans (s2.trans s3)).trans s4).imp fun z => by rw [z]; rfl) g4
    · exact h.elim⟩
end

/-! ### built-in functions -/
def CallOp (κ : Kx) (r : List V → Hp → VK → Prop) (f : List D → Option O) : Prop := ∀ (A : Fp) (F H : Hp) (ρ : Env) (σ : L2.St) (τ : List O) (υ : List V), G κ A F H ρ σ τ υ → ∀ rs vs, OwnL κ ρ A F H rs vs →
  ∀ o, f (rs.map fun x => x.2.toD) = some o → ∀ Q : VK, (∀ v H', Fin κ A F H ρ σ τ υ o v H' → Q v H') → r vs H Q
def mCall (f : List D → Option O) (ms : M (List (Option Nat × O))) : M O := mBind ms fun rs => match f (rs.map fun x => x.2.toD) with
  | some o => mPure o
  | none => fun _ => .bad
section
variable {X : Cx} {κ : Kx} {W : WX'} {e : Expr} {es : List Expr} {p : Bool} {ps pos : Pos} {x : Str} {r : List V → Hp → VK → Prop} {f : List D → Option O} {ms : M (List (Option Nat × O))}
theorem call_of (hs : CallOp κ r f) {σ : L2.St} {H : Hp} {Q : VK} (h : tE κ W p (mCall f ms) σ H Q) : tCB r (tBs κ W p ms) σ H Q := by
  obtain ⟨A, F, ρ, τ, υ, g, h⟩ := h
  refine ⟨A, F, ρ, τ, υ, g, h.bind.imp fun rs ρ1 h vs A1 F1 H1 s1 g1 w => ?_⟩
  cases e : f (rs.map fun x => x.2.toD) with
  | none => rw [e] at h; exact h.elim
  | some o =>
    rw [e] at h
    exact hs A1 F1 H1 ρ1 σ τ υ g1 rs vs w o e Q fun v H2 ⟨A2, F2, s2, g2⟩ => h v A2 F2 H2 ((s1.trans s2).imp fun z => by rw [z]; rfl) g2
theorem dE_callB {id : String} (hc : CallR X (.builtin id) r) (hs : CallOp κ r f) (hg : Gl X x) (hm : X.mg x = none) (hv : bootBuiltins x = some (.builtin id)) (ha : PA X (e :: es) (tBs κ W p ms)) (hn : x ≠ "__name__") (hdb : (x == ("__debug__" : Str)) = false)
    (he : starEach (e :: es) X.env = (false, eval e X.env) :: starEach es X.env := by rfl) (hpl : (backTo pos (starEach es X.env)).any (·.1) = false := by rfl) : PE X (.Call (.Name x ps) (e :: es) [] pos) (tE κ W p (mCall f ms)) :=
  pe_imp (pe_callB hc hg hm hv ha hn hdb he hpl) fun _ _ _ h => call_of hs h
theorem dE_callT {T : String} (hc : CallR X (.type T) r) (hs : CallOp κ r f) (hg : Gl X x) (hm : X.mg x = none) (hv : bootBuiltins x = some (.type T)) (ha : PA X (e :: es) (tBs κ W p ms)) (hn : x ≠ "__name__") (hdb : (x == ("__debug__" : Str)) = false)
    (he : starEach (e :: es) X.env = (false, eval e X.env) :: starEach es X.env := by rfl) (hpl : (backTo pos (starEach es X.env)).any (·.1) = false := by rfl) : PE X (.Call (.Name x ps) (e :: es) [] pos) (tE κ W p (mCall f ms)) :=
  pe_imp (pe_callTy hc hg hm hv ha hn hdb he hpl) fun _ _ _ h => call_of hs h
end
theorem OwnL.one {κ : Kx} {ρ : Env} {A : Fp} {F H : Hp} {rs : List (Option Nat × O)} {vs : List V} {d : D} (w : OwnL κ ρ A F H rs vs) (e : rs.map (fun x => x.2.toD) = [d]) : ∃ o v B, vs = [v] ∧ Own κ F H o v B ∧ o.toD = d := by
  cases w with
  | nil => cases e
  | cons w _ t =>
    cases t with
    | nil =>
      simp only [List.map_cons, List.map_nil, List.cons.injEq] at e
      exact ⟨_, _, _, rfl, w, e.1⟩
    | cons _ _ _ => simp at e
theorem OwnL.two {κ : Kx} {ρ : Env} {A : Fp} {F H : Hp} {rs : List (Option Nat × O)} {vs : List V} {d d' : D} (w : OwnL κ ρ A F H rs vs) (e : rs.map (fun x => x.2.toD) = [d, d']) :
    ∃ o v B o' v' B', vs = [v, v'] ∧ Own κ F H o v B ∧ o.toD = d ∧ Own κ F H o' v' B' ∧ o'.toD = d' := by
  cases w with
  | nil => cases e
  | cons w _ t =>
    simp only [List.map_cons, List.cons.injEq] at e
    obtain ⟨o', v', B', rfl, w', e'⟩ := t.one e.2
    exact ⟨_, _, _, o', v', B', rfl, w, e.1, w', e'⟩
/-- one argument -/
def Call1 (κ : Kx) (r : List V → Hp → VK → Prop) (f : D → Option O) : Prop := ∀ (A : Fp) (F H : Hp) (ρ : Env) (σ : L2.St) (τ : List O) (υ : List V), G κ A F H ρ σ τ υ → ∀ o v B, Own κ F H o v B →
  ∀ u, f o.toD = some u → ∀ Q : VK, (∀ v H', Fin κ A F H ρ σ τ υ u v H' → Q v H') → r [v] H Q
def f1 (f : D → Option O) : List D → Option O
  | [d] => f d
  | _ => none
theorem Call1.op {κ : Kx} {r : List V → Hp → VK → Prop} {f : D → Option O} (h : Call1 κ r f) : CallOp κ r (f1 f) := by
  intro A F H ρ σ τ υ g rs vs w o e Q q
  unfold f1 at e
  split at e
  · rename_i d e1
    obtain ⟨o', v, B, rfl, w', rfl⟩ := w.one e1
    exact h A F H ρ σ τ υ g o' v B w' o e Q q
  · cases e
def Call2 (κ : Kx) (r : List V → Hp → VK → Prop) (f : D → D → Option O) : Prop := ∀ (A : Fp) (F H : Hp) (ρ : Env) (σ : L2.St) (τ : List O) (υ : List V), G κ A F H ρ σ τ υ → ∀ o v B, Own κ F H o v B → ∀ o' v' B', Own κ F H o' v' B' →
  ∀ u, f o.toD o'.toD = some u → ∀ Q : VK, (∀ v H', Fin κ A F H ρ σ τ υ u v H' → Q v H') → r [v, v'] H Q
def f2 (f : D → D → Option O) : List D → Option O
  | [d, d'] => f d d'
  | _ => none
theorem Call2.op {κ : Kx} {r : List V → Hp → VK → Prop} {f : D → D → Option O} (h : Call2 κ r f) : CallOp κ r (f2 f) := by
  intro A F H ρ σ τ υ g rs vs w o e Q q
  unfold f2 at e
  split at e
  · rename_i d d' e1
    obtain ⟨o1, v, B, o2, v', B', rfl, w1, rfl, w2, rfl⟩ := w.two e1
    exact h A F H ρ σ τ υ g o1 v B w1 o2 v' B' w2 o e Q q
  · cases e
def orF (f f' : List D → Option O) (ds : List D) : Option O := match f ds with
  | some o => some o
  | none => f' ds
theorem CallOp.or {κ : Kx} {r r' : List V → Hp → VK → Prop} {f f' : List D → Option O} (h : CallOp κ r f) (h' : CallOp κ r' f') :
    CallOp κ (fun vs H Q => r vs H Q ∨ r' vs H Q) (orF f f') := by
  intro A F H ρ σ τ υ g rs vs w o e Q q
  unfold orF at e
  cases e1 : f (rs.map fun x => x.2.toD) with
  | some u =>
    rw [e1] at e
    cases e
    exact .inl (h A F H ρ σ τ υ g rs vs w _ e1 Q q)
  | none =>
    rw [e1] at e
    exact .inr (h' A F H ρ σ τ υ g rs vs w o e Q q)

/-! len -/
def lenD : D → Option O
  | .str x => if x.length ≤ lim then some (.sh (.int x.length)) else none
  | .tup xs => some (.sh (.int xs.length))
  | .lst xs => some (.sh (.int xs.length))
  | .dk _ vs => some (.sh (.int vs.length))
  | .dt _ vs => some (.sh (.int vs.length))
  | _ => none
def rLenA (K : PySem.W.Frag) : List V → Hp → VK → Prop := fun xs H Q => (∃ x n, xs = [x] ∧ LenV K x H n ∧ Q (.int n) H) ∨ (∃ a kvs, xs = [V.ref a] ∧ H a = some (.dK kvs) ∧ Q (.int kvs.length) H) ∨ rLenT xs H Q
theorem call_lenA {X : Cx} : CallR X (.builtin "len") (rLenA X.K) := call_len.or (call_lenD.or call_len_dT)
theorem len_sem {κ : Kx} : Call1 κ (rLenA κ.K) lenD := by
  intro A F H ρ σ τ υ g o v B w u e Q q
  have r := w.repH g.fh
  unfold lenD at e
  split at e
  · rename_i x ex
    split at e
    · rename_i hl
      cases e
      rw [ex] at r
      exact .inl ⟨v, x.length, rfl, by rw [r.str_v]; exact ⟨lim_eq ▸ hl, rfl⟩, q _ _ (fin_sh g (.int _))⟩
    · cases e
  · rename_i xs ex
    cases e
    rw [ex] at r
    obtain ⟨a, vs, rfl, h1, h2⟩ := r.tup_v
    refine .inl ⟨_, vs.length, rfl, .inr ⟨vs, SqT.of h1, rfl⟩, ?_⟩
    rw [h2.length]
    exact q _ _ (fin_sh g (.int _))
  · rename_i xs ex
    cases e
    rw [ex] at r
    obtain ⟨a, vs, rfl, h1, h2⟩ := r.lst_v
    refine .inl ⟨_, vs.length, rfl, .inl ⟨vs, SqL.of h1, rfl⟩, ?_⟩
    rw [h2.length]
    exact q _ _ (fin_sh g (.int _))
  · rename_i ks xs ex
    cases e
    rw [ex] at r
    obtain ⟨a, kvs, rfl, h1, _, h2⟩ := r.dk_v
    have hl := h2.length
    rw [List.length_map] at hl
    refine .inr (.inl ⟨a, kvs, rfl, h1, ?_⟩)
    rw [hl]
    exact q _ _ (fin_sh g (.int _))
  · rename_i ks xs ex
    cases e
    rw [ex] at r
    obtain ⟨a, kvs, rfl, h1, _, h2⟩ := r.dt_v
    have hl := h2.length
    rw [List.length_map] at hl
    refine .inr (.inr ⟨a, kvs, rfl, h1, ?_⟩)
    rw [hl]
    exact q _ _ (fin_sh g (.int _))
  · cases e

/-! ints -/
def absD : D → Option O
  | .int i => some (.sh (.int (if i < 0 then -i else i)))
  | _ => none
theorem abs_sem {κ : Kx} : Call1 κ (fun xs H Q => ∃ i, xs = [.int i] ∧ Q (.int (if i < 0 then -i else i)) H) absD := by
  intro A F H ρ σ τ υ g o v B w u e Q q
  unfold absD at e
  split at e
  · rename_i i ex
    cases e
    exact ⟨i, by rw [w.int_v ex g.fh], q _ _ (fin_sh g (.int _))⟩
  · cases e
def intD : D → Option O
  | .int i => some (.sh (.int i))
  | .bl k => some (.sh (.int (if k then 1 else 0)))
  | _ => none
theorem int_sem {κ : Kx} : Call1 κ (fun xs H Q => (∃ i, xs = [.int i] ∧ Q (.int i) H) ∨ ∃ k, xs = [.bl k] ∧ Q (.int (if k then 1 else 0)) H) intD := by
  intro A F H ρ σ τ υ g o v B w u e Q q
  unfold intD at e
  split at e
  · rename_i i ex
    cases e
    exact .inl ⟨i, by rw [w.int_v ex g.fh], q _ _ (fin_sh g (.int _))⟩
  · rename_i i ex
    cases e
    exact .inr ⟨i, by rw [w.bl_v ex g.fh], q _ _ (fin_sh g (.int _))⟩
  · cases e
def minD : D → D → Option O
  | .int i, .int j => some (.sh (.int (if j < i then j else i)))
  | _, _ => none
def maxD : D → D → Option O
  | .int i, .int j => some (.sh (.int (if j > i then j else i)))
  | _, _ => none
theorem min_sem {κ : Kx} : Call2 κ (fun xs H Q => ∃ i j, xs = [.int i, .int j] ∧ Q (.int (if j < i then j else i)) H) minD := by
  intro A F H ρ σ τ υ g o v B w o' v' B' w' u e Q q
  unfold minD at e
  split at e
  · rename_i i j ex ey
    cases e
    exact ⟨i, j, by rw [w.int_v ex g.fh, w'.int_v ey g.fh], q _ _ (fin_sh g (.int _))⟩
  · cases e
theorem max_sem {κ : Kx} : Call2 κ (fun xs H Q => ∃ i j, xs = [.int i, .int j] ∧ Q (.int (if j > i then j else i)) H) maxD := by
  intro A F H ρ σ τ υ g o v B w o' v' B' w' u e Q q
  unfold maxD at e
  split at e
  · rename_i i j ex ey
    cases e
    exact ⟨i, j, by rw [w.int_v ex g.fh, w'.int_v ey g.fh], q _ _ (fin_sh g (.int _))⟩
  · cases e

/-! tuple, list -/
def tupleD : D → Option O
  | .lst xs => some (.sh (.tup xs))
  | .tup xs => some (.sh (.tup xs))
  | _ => none
def rTupA (K : PySem.W.Frag) : List V → Hp → VK → Prop := fun xs H Q => ∃ p ys, xs = [.ref p] ∧ ((SqL K H p ys ∧ ∀ l, H l = none → Q (.ref l) (upd H l (.tup ys))) ∨ (SqT K H p ys ∧ Q (.ref p) H))
theorem tuple_sem {κ : Kx} : Call1 κ (rTupA κ.K) tupleD := by
  intro A F H ρ σ τ υ g o v B w u e Q q
  unfold tupleD at e
  split at e
  · rename_i xs ex
    cases e
    obtain ⟨a, vs, rfl, h1, h2⟩ := w.lst_v ex g.fh
    exact ⟨a, vs, rfl, .inl ⟨SqL.of h1, fun l hl => q _ _ (fin_tup g hl h2)⟩⟩
  · rename_i xs ex
    cases e
    obtain ⟨a, vs, rfl, h1, h2⟩ := w.tup_v ex
    exact ⟨a, vs, rfl, .inr ⟨SqT.of (g.fh _ _ h1), q _ _ (fin_sh g (.tup h1 h2))⟩⟩
  · cases e
def listD : D → Option O
  | .lst xs => some (.lst xs)
  | .fz xs => some (.lst xs)
  | .tup xs => some (.lst xs)
  | _ => none
def rListA (K : PySem.W.Frag) : List V → Hp → VK → Prop := fun xs H Q => ∃ p ys, xs = [.ref p] ∧ (SqL K H p ys ∨ SqT K H p ys) ∧ ∀ l, H l = none → Q (.ref l) (upd H l (.lst ys))
theorem list_sem {κ : Kx} : Call1 κ (rListA κ.K) listD := by
  intro A F H ρ σ τ υ g o v B w u e Q q
  unfold listD at e
  split at e
  · rename_i xs ex
    cases e
    obtain ⟨a, vs, rfl, h1, h2⟩ := w.lst_v ex g.fh
    exact ⟨a, vs, rfl, .inl (SqL.of h1), fun l hl => q _ _ (fin_lst g hl h2)⟩
  · rename_i xs ex
    cases e
    obtain ⟨a, vs, rfl, h1, r'⟩ := w.fz_v ex
    exact ⟨a, vs, rfl, .inl (g.fh.seq h1), fun l hl => q _ _ (fin_lst g hl r')⟩
  · rename_i xs ex
    cases e
    obtain ⟨a, vs, rfl, h1, h2⟩ := w.tup_v ex
    exact ⟨a, vs, rfl, .inr (SqT.of (g.fh _ _ h1)), fun l hl => q _ _ (fin_lst g hl h2)⟩
  · cases e

/-! sums, all, any -/
def intsD : List D → Option (List Int)
  | [] => some []
  | .int i :: ds => match intsD ds with
    | some is => some (i :: is)
    | none => none
  | _ => none
theorem ints_v {κ : Kx} {F : Hp} : ∀ {vs : List V} {ds : List D} {is : List Int}, Reps κ F vs ds → intsD ds = some is → vs = is.map V.int
  | _, _, _, .nil, e => by simp only [intsD] at e; cases e; rfl
  | _, _, _, .cons h r, e => by
    unfold intsD at e
    split at e
    · rename_i e1; cases e1
    · rename_i i ds e1
      cases e1
      split at e
      · rename_i is e2
        cases e
        rw [h.int_v, ints_v r e2]
        rfl
      · cases e
    · cases e
def blsD : List D → Option (List Bool)
  | [] => some []
  | .bl b :: ds => match blsD ds with
    | some bs => some (b :: bs)
    | none => none
  | _ => none
theorem bls_v {κ : Kx} {F : Hp} : ∀ {vs : List V} {ds : List D} {is : List Bool}, Reps κ F vs ds → blsD ds = some is → vs = is.map V.bl
  | _, _, _, .nil, e => by simp only [blsD] at e; cases e; rfl
  | _, _, _, .cons h r, e => by
    unfold blsD at e
    split at e
    · rename_i e1; cases e1
    · rename_i i ds e1
      cases e1
      split at e
      · rename_i is e2
        cases e
        rw [h.bl_v, bls_v r e2]
        rfl
      · cases e
    · cases e
def sumD : D → Option O
  | .lst ds => match intsD ds with
    | some is => some (.sh (.int is.sum))
    | none => none
  | _ => none
theorem sum_sem {κ : Kx} : Call1 κ (rSum κ.K) sumD := by
  intro A F H ρ σ τ υ g o v B w u e Q q
  unfold sumD at e
  split at e
  · rename_i ds ex
    split at e
    · rename_i is ei
      cases e
      obtain ⟨a, vs, rfl, h1, h2⟩ := w.lst_v ex g.fh
      rw [ints_v h2 ei] at h1
      exact ⟨a, is, rfl, SqL.of h1, q _ _ (fin_sh g (.int _))⟩
    · cases e
  · cases e
def anyD : D → Option O
  | .lst ds => match blsD ds with
    | some bs => some (.sh (.bl (bs.any id)))
    | none => none
  | _ => none
def allD : D → Option O
  | .lst ds => match blsD ds with
    | some bs => some (.sh (.bl (bs.all id)))
    | none => none
  | _ => none
theorem any_sem {κ : Kx} : Call1 κ (rAny κ.K) anyD := by
  intro A F H ρ σ τ υ g o v B w u e Q q
  unfold anyD at e
  split at e
  · rename_i ds ex
    split at e
    · rename_i is ei
      cases e
      obtain ⟨a, vs, rfl, h1, h2⟩ := w.lst_v ex g.fh
      rw [bls_v h2 ei] at h1
      exact ⟨a, is, rfl, SqL.of h1, q _ _ (fin_sh g (.bl _))⟩
    · cases e
  · cases e
theorem all_sem {κ : Kx} : Call1 κ (rAll κ.K) allD := by
  intro A F H ρ σ τ υ g o v B w u e Q q
  unfold allD at e
  split at e
  · rename_i ds ex
    split at e
    · rename_i is ei
      cases e
      obtain ⟨a, vs, rfl, h1, h2⟩ := w.lst_v ex g.fh
      rw [bls_v h2 ei] at h1
      exact ⟨a, is, rfl, SqL.of h1, q _ _ (fin_sh g (.bl _))⟩
    · cases e
  · cases e
end DL

end

section
set_option Elab.async false
set_option linter.all false
set_option maxRecDepth 100000
/-! DL, part F: cells changed in place, targets, what a loop walks, loops, comprehensions. -/
namespace DL
open PySem L2 RZ

section
variable {κ : Kx} {A A' : Fp} {F F' H H' : Hp} {ρ ρ' : Env} {σ σ' : L2.St} {τ τ' : List O} {υ υ' : List V}
/-- what stands at a place changes -/
theorem G.write {x : Ix} {o' : O} {v : V} {S : List Addr} (g : G κ A F H ρ σ τ υ) (len : ρ'.length = ρ.length) (lent : τ'.length = τ.length)
    (hx : ∀ o, atO ρ' τ' x = some o → o = o') (hy : ∀ y o, y ≠ x → atO ρ' τ' y = some o → atO ρ τ y = some o) (hv : atV σ υ x = some v) (w : Own κ F H' o' v S) (nd : S.Nodup)
    (hS : ∀ b ∈ S, b ∈ A x ∨ (∀ y, b ∉ A y) ∧ F b = none) (hH : ∀ b o, H b = some o → b ∉ A x → H' b = some o) : G κ (upA A x S) F H' ρ' σ τ' υ := by
  refine ⟨len.trans g.len, lent.trans g.lent, fun y u e => ?_, fun y => ?_, fun y z b n h1 h2 => ?_, fun y b hb => ?_, fun y b hb => ?_, fun b u e => ?_⟩
  · by_cases z : y = x
    · subst z
      rw [hx u e, upA_same]
      exact ⟨v, hv, w⟩
    · obtain ⟨v', h1, h2⟩ := g.own y u (hy y u z e)
      refine ⟨v', h1, ?_⟩
      rw [upA_ne z]
      exact h2.mono (Same.refl _) fun b hb o e => hH b o e (g.dj y x b z hb)
  · by_cases z : y = x
    · subst z; rw [upA_same]; exact nd
    · rw [upA_ne z]; exact g.nd y
  · by_cases a : y = x
    · subst a
      rw [upA_same] at h1
      rw [upA_ne (Ne.symm n)] at h2
      rcases hS b h1 with q | q
      · exact g.dj y z b n q h2
      · exact q.1 z h2
    · rw [upA_ne a] at h1
      by_cases c : z = x
      · subst c
        rw [upA_same] at h2
        rcases hS b h2 with q | q
        · exact g.dj y z b n h1 q
        · exact q.1 y h1
      · rw [upA_ne c] at h2
        exact g.dj y z b n h1 h2
  · by_cases a : y = x
    · subst a
      rw [upA_same] at hb
      rcases hS b hb with q | q
      · exact g.ff y b q
      · exact q.2
    · rw [upA_ne a] at hb; exact g.ff y b hb
  · by_cases a : y = x
    · subst a
      rw [upA_same] at hb
      exact w.there b hb
    · rw [upA_ne a] at hb
      obtain ⟨o, e, q⟩ := g.ft y b hb
      exact ⟨o, hH b o e (g.dj y x b a hb), q⟩
  · exact hH b u (g.fh b u e) fun hb => by rw [g.ff x b hb] at e; cases e
theorem frWrite {A0 : Fp} {x : Ix} {S : List Addr} (hS : ∀ b ∈ S, (∃ y, b ∈ A0 y) ∨ H b = none) (hA : ∀ y b, b ∈ A y → ∃ z, b ∈ A0 z) (hx : ∀ b ∈ A x, ∃ z, b ∈ A0 z) (hH : ∀ b o, H b = some o → b ∉ A x → H' b = some o)
    (ht : ∀ b, H b ≠ none → H' b ≠ none) : Fr A0 F H (upA A x S) F H' :=
  ⟨fun b o e n => hH b o e fun hb => let ⟨z, hz⟩ := hx b hb; n z hz, ht, fun y b hb => by
    by_cases a : y = x
    · subst a; rw [upA_same] at hb; exact hS b hb
    · rw [upA_ne a] at hb; exact .inl (hA y b hb), Same.refl _, fun b e => .inl e⟩
/-- one owned cell is written -/
theorem G.write1 {x : Ix} {o o' : O} {a : Addr} {u : HO} (g : G κ A F H ρ σ τ υ) (len : ρ'.length = ρ.length) (lent : τ'.length = τ.length)
    (h0 : atO ρ τ x = some o) (ha : a ∈ A x)
    (hx : ∀ o, atO ρ' τ' x = some o → o = o') (hy : ∀ y o, y ≠ x → atO ρ' τ' y = some o → atO ρ τ y = some o) {v : V} (hv : atV σ υ x = some v) (w : Own κ F (upd H a u) o' v (A x)) :
    G κ (upA A x (A x)) F (upd H a u) ρ' σ τ' υ ∧ Fr A F H (upA A x (A x)) F (upd H a u) := by
  have hH : ∀ b o, H b = some o → b ∉ A x → (upd H a u) b = some o := fun b o e n => by rw [upd_ne (fun z => n (by rw [z]; exact ha))]; exact e
  refine ⟨g.write len lent hx hy hv w (g.nd x) (fun b hb => .inl hb) hH, frWrite (fun b hb => .inl ⟨x, hb⟩) (fun y b hb => ⟨y, hb⟩) (fun b hb => ⟨x, hb⟩) hH fun b e => ?_⟩
  by_cases z : b = a
  · subst z; rw [upd_same]; simp
  · rw [upd_ne z]; exact e
theorem Own.lst_own {ds : List D} {v : V} {S : List Addr} (w : Own κ F H (.lst ds) v S) : ∃ a vs, v = .ref a ∧ S = [a] ∧ H a = some (.lst vs) ∧ Reps κ F vs ds := by
  cases w with
  | fd w => cases w with
    | ct w =>
      obtain ⟨vs, h1, h2⟩ := w
      exact ⟨_, vs, rfl, rfl, h1, h2⟩
theorem upA_id {x : Ix} : upA A x (A x) = A := by
  funext y; unfold upA; split
  · rename_i e; rw [e]
  · rfl
/-- the list on the top of the stack -/
theorem G.writeT {ds ds' : List D} {v : V} (g : G κ A F H ρ σ (τ ++ [.lst ds]) (υ ++ [v])) : ∃ a vs, v = .ref a ∧ H a = some (.lst vs) ∧ Reps κ F vs ds ∧ ∀ ws, Reps κ F ws ds' →
    G κ A F (upd H a (.lst ws)) ρ σ (τ ++ [.lst ds']) (υ ++ [v]) ∧ Fr A F H A F (upd H a (.lst ws)) := by
  have hl : τ.length = υ.length := by have := g.lent; simp at this; exact this
  obtain ⟨u, h1, h2⟩ := g.own (.t τ.length) _ atO_top
  rw [hl, atV_top] at h1; cases h1
  obtain ⟨a, vs, rfl, hS, h3, h4⟩ := h2.lst_own
  refine ⟨a, vs, rfl, h3, h4, fun ws r => ?_⟩
  have q := g.write1 (ρ' := ρ) (τ' := τ ++ [.lst ds']) (x := .t τ.length) (o := .lst ds) (o' := .lst ds') (a := a) (u := .lst ws) rfl (by simp) atO_top (by rw [hS]; simp) (fun o e => by rw [atO_top] at e; cases e; rfl)
    (fun y o n e => by rw [atO_app n] at e ⊢; exact e) (v := .ref a) (by rw [hl]; exact atV_top) (by rw [hS]; exact .fd (.ct ⟨ws, upd_same, r⟩))
  rw [upA_id] at q
  exact q
/-- a slot's list -/
theorem G.writeS {ds ds' : List D} {i : Nat} (g : G κ A F H ρ σ τ υ) (h : ρ[i]? = some (some (.lst ds))) : ∃ a vs, σ[i]? = some (some (.ref a)) ∧ A (.s i) = [a] ∧ H a = some (.lst vs) ∧ Reps κ F vs ds ∧ ∀ ws, Reps κ F ws ds' →
    G κ A F (upd H a (.lst ws)) (ρ.set i (some (.lst ds'))) σ τ υ ∧ Fr A F H A F (upd H a (.lst ws)) := by
  obtain ⟨v, h1, h2⟩ := g.slot h
  obtain ⟨a, vs, rfl, hS, h3, h4⟩ := h2.lst_own
  refine ⟨a, vs, h1, hS, h3, h4, fun ws r => ?_⟩
  have hi : i < ρ.length := by
    rcases Nat.lt_or_ge i ρ.length with q | q
    · exact q
    · rw [List.getElem?_eq_none q] at h; cases h
  have q := g.write1 (ρ' := ρ.set i (some (.lst ds'))) (τ' := τ) (x := .s i) (o := .lst ds) (o' := .lst ds') (a := a) (u := .lst ws) (by simp) rfl (by simp [atO, h]) (by rw [hS]; simp) (fun o e => by simp [atO, hi] at e; exact e.symm)
    (fun y o n e => by
      cases y with
      | t k => exact e
      | s j =>
        have hj : j ≠ i := fun z => n (by rw [z])
        simp only [atO] at e ⊢
        rw [List.getElem?_set_ne (Ne.symm hj)] at e
        exact e) (v := .ref a) (by simp [atV, h1]) (by rw [hS]; exact .fd (.ct ⟨ws, upd_same, r⟩))
  rw [upA_id] at q
  exact q
end

/-! ### targets -/
abbrev Bn := D → Env → Option Env
def bName (i : Nat) : Bn := fun d ρ => if i < ρ.length then some (ρ.set i (some (.sh d))) else none
def bSeq : List Bn → List D → Env → Option Env
  | [], [], ρ => some ρ
  | b :: bs, d :: ds, ρ => match b d ρ with
    | some ρ1 => bSeq bs ds ρ1
    | none => none
  | _, _, _ => none
def bTup (bs : List Bn) : Bn := fun d ρ => match d with
  | .tup ds => bSeq bs ds ρ
  | _ => none
/-- only the slots ts have changed -/
def Nt (ts : List Nat) (σ σ' : L2.St) : Prop := σ'.length = σ.length ∧ ∀ i, i ∉ ts → σ'[i]? = σ[i]?
theorem Nt.refl {ts : List Nat} {σ : L2.St} : Nt ts σ σ := ⟨rfl, fun _ _ => rfl⟩
theorem Nt.trans {ts us : List Nat} {σ σ1 σ2 : L2.St} (h : Nt ts σ σ1) (h' : Nt us σ1 σ2) : Nt (ts ++ us) σ σ2 :=
  ⟨h'.1.trans h.1, fun i n => (h'.2 i fun z => n (List.mem_append_right _ z)).trans (h.2 i fun z => n (List.mem_append_left _ z))⟩
theorem Nt.set {σ : L2.St} {i : Nat} {v : Option V} : Nt [i] σ (σ.set i v) := ⟨by simp, fun j n => by
  have hj : i ≠ j := fun z => n (by rw [z]; simp)
  rw [List.getElem?_set_ne hj]⟩
def tBn (κ : Kx) (ts : List Nat) (b : Bn) : TG := fun v σ H Q => ∃ A F ρ τ υ d ρ', G κ A F H ρ σ τ υ ∧ Rep κ F v d ∧ b d ρ = some ρ' ∧ ∀ σ' A', Fr A F H A' F H → G κ A' F H ρ' σ' τ υ → Nt ts σ σ' → Q σ' H
def tBns (κ : Kx) (ts : List Nat) (b : List D → Env → Option Env) : TGs := fun vs σ H Q => ∃ A F ρ τ υ ds ρ', G κ A F H ρ σ τ υ ∧ Reps κ F vs ds ∧ b ds ρ = some ρ' ∧ ∀ σ' A', Fr A F H A' F H → G κ A' F H ρ' σ' τ υ → Nt ts σ σ' → Q σ' H
section
variable {X : Cx} {κ : Kx}
theorem pg_imp {e : Expr} {t t' : TG} (h : PG X e t) (i : ∀ v σ H Q, t' v σ H Q → t v σ H Q) : PG X e t' := ⟨fun pins s σ H v u Q I r q => h.run pins s σ H v u Q I r (i v σ H Q q)⟩
theorem pgs_imp {e : List Expr} {t t' : TGs} (h : PGs X e t) (i : ∀ v σ H Q, t' v σ H Q → t v σ H Q) : PGs X e t' := ⟨fun pins s σ H v u Q I r q => h.run pins s σ H v u Q I r (i v σ H Q q)⟩
theorem bind_name {i : Nat} {A : Fp} {F H : Hp} {ρ : Env} {σ : L2.St} {τ : List O} {υ : List V} (g : G κ A F H ρ σ τ υ) {v : V} {d : D} (r : Rep κ F v d) : ∃ A', Fr A F H A' F H ∧ G κ A' F H (ρ.set i (some (.sh d))) (σ.set i (some v)) τ υ := by
  obtain ⟨g1, f1⟩ := g.pushSh r
  obtain ⟨g2, f2⟩ := g1.assign (i := i)
  exact ⟨_, f1.trans f2, g2⟩
theorem dG_name {i : Nat} {x : Str} {pos : Pos} (h : PG X (.Name x pos) (gName i)) : PG X (.Name x pos) (tBn κ [i] (bName i)) := pg_imp h fun v σ H Q ⟨A, F, ρ, τ, υ, d, ρ', g, r, e, q⟩ => by
  unfold bName at e
  split at e
  · cases e
    obtain ⟨A', f, g'⟩ := bind_name (i := i) g r
    exact q _ A' f g' Nt.set
  · cases e
theorem dGs_nil : PGs X [] (tBns κ [] (bSeq [])) := pgs_imp pgs_nil fun vs σ H Q ⟨A, F, ρ, τ, υ, ds, ρ', g, r, e, q⟩ => by
  cases r with
  | nil =>
    cases e
    exact ⟨rfl, q σ A .refl g .refl⟩
  | cons _ _ => cases e
theorem dGs_cons {e : Expr} {es : List Expr} {ts us : List Nat} {b : Bn} {bs : List Bn} (h1 : PG X e (tBn κ ts b)) (h2 : PGs X es (tBns κ us (bSeq bs)))
    (hs : (assignEach (e :: es) X.env).map (·.2) = assign e X.env :: (assignEach es X.env).map (·.2) := by rfl) : PGs X (e :: es) (tBns κ (ts ++ us) (bSeq (b :: bs))) :=
  pgs_imp (pgs_cons h1 h2 hs) fun vs σ H Q ⟨A, F, ρ, τ, υ, ds, ρ', g, r, e, q⟩ => by
    cases r with
    | nil => cases e
    | @cons v vs d ds r rs =>
      unfold bSeq at e
      split at e
      · rename_i ρ1 e1
        exact ⟨v, vs, rfl, A, F, ρ, τ, υ, d, ρ1, g, r, e1, fun σ1 A1 f1 g1 n1 => ⟨A1, F, ρ1, τ, υ, ds, ρ', g1, rs, e, fun σ2 A2 f2 g2 n2 => q σ2 A2 (f1.trans f2) g2 (n1.trans n2)⟩⟩
      · cases e
theorem bSeq_len : ∀ {bs : List Bn} {ds : List D} {ρ ρ' : Env}, bSeq bs ds ρ = some ρ' → ds.length = bs.length
  | [], [], _, _, _ => rfl
  | [], _ :: _, _, _, e => by simp [bSeq] at e
  | _ :: _, [], _, _, e => by simp [bSeq] at e
  | b :: bs, d :: ds, ρ, ρ', e => by
    unfold bSeq at e
    split at e
    · simp [bSeq_len e]
    · cases e
theorem dG_tup {es : List Expr} {k : Nat} {pos : Pos} {ts : List Nat} {bs : List Bn} (hc : X.calm = true) (h : PGs X es (tBns (kx X) ts (bSeq bs)))
    (hn : (assignEach es X.env).length = bs.length := by rfl) (hst : (assignEach es X.env).findIdx? (·.1) = none := by rfl) : PG X (.Tuple es k pos) (tBn (kx X) ts (bTup bs)) :=
  pg_imp (pg_tup hc h hn hst) fun v σ H Q ⟨A, F, ρ, τ, υ, d, ρ', g, r, e, q⟩ => by
    unfold bTup at e
    split at e
    · rename_i ds
      obtain ⟨a, vs, rfl, h1, h2⟩ := r.tup_v
      exact ⟨a, vs, rfl, SqT.of (g.fh _ _ h1), by rw [h2.length]; exact bSeq_len e, A, F, ρ, τ, υ, ds, ρ', g, h2, e, q⟩
    · cases e
end

/-! ### what is walked -/
structure JOk (κ : Kx) (J : It) (F : Hp) (ds : List D) : Prop where
  go : ∀ i F1 H1, Same F F1 → Same F1 H1 → i < ds.length → J.go i H1
  yld : ∀ i d A F1 H1 ρ σ τ υ x H2, Same F F1 → G κ A F1 H1 ρ σ τ υ → ds[i]? = some d → J.yld i H1 x H2 → ∃ A2 F2, Stp true ρ A F1 H1 ρ A2 F2 H2 ∧ G κ A2 F2 H2 ρ σ τ υ ∧ Rep κ F2 x d
  stop : ∀ i F1 H1, Same F F1 → Same F1 H1 → ds.length ≤ i → J.stop i H1
def tIt (κ : Kx) (W : WX') (p : Bool) (m : M (List D)) : TI := fun σ H R => ∃ A F ρ τ υ, G κ A F H ρ σ τ υ ∧ Wp κ W A F H σ τ υ (m ρ) fun ds ρ' => ∀ J A' F' H', Stp p ρ A F H ρ' A' F' H' → G κ A' F' H' ρ' σ τ υ → JOk κ J F' ds → R J H'
def seqD : D → M (List D)
  | .lst xs => mPure xs
  | .fz xs => mPure xs
  | .tup xs => mPure xs
  | _ => fun _ => .bad
theorem jok_lst {κ : Kx} {F : Hp} {a : Addr} {vs : List V} {ds : List D} (h : SqL κ.K F a vs) (r : Reps κ F vs ds) : JOk κ (Itl κ.K a) F ds where
  go := fun i F1 H1 e1 e2 hi => by
    have hi' : i < vs.length := by rw [r.length]; exact hi
    exact ⟨vs, vs[i], e2.seq (e1.seq h), by simp [hi']⟩
  yld := fun i d A F1 H1 ρ σ τ υ x H2 e1 g ed ⟨e, y⟩ => by
    subst e
    obtain ⟨v, h1, h2⟩ := r.get i ed
    have := y vs (g.fh.seq (e1.seq h))
    rw [h1] at this; cases this
    exact ⟨A, F1, .refl, g, h2.mono e1⟩
  stop := fun i F1 H1 e1 e2 hi => ⟨vs, e2.seq (e1.seq h), by rw [r.length]; exact hi⟩
theorem jok_tup {κ : Kx} {F : Hp} {a : Addr} {vs : List V} {ds : List D} (h : F a = some (.tup vs)) (r : Reps κ F vs ds) : JOk κ (Itt κ.K a) F ds where
  go := fun i F1 H1 e1 e2 hi => by
    have hi' : i < vs.length := by rw [r.length]; exact hi
    exact ⟨vs, vs[i], SqT.of (e2 _ _ (e1 _ _ h)), by simp [hi']⟩
  yld := fun i d A F1 H1 ρ σ τ υ x H2 e1 g ed ⟨e, y⟩ => by
    subst e
    obtain ⟨v, h1, h2⟩ := r.get i ed
    have := y vs (SqT.of (g.fh _ _ (e1 _ _ h)))
    rw [h1] at this; cases this
    exact ⟨A, F1, .refl, g, h2.mono e1⟩
  stop := fun i F1 H1 e1 e2 hi => ⟨vs, SqT.of (e2 _ _ (e1 _ _ h)), by rw [r.length]; exact hi⟩
/-- the ints lo, lo + 1, .. -/
def rngD (lo : Int) (n : Nat) : List D := (List.range n).map fun (k : Nat) => D.int (lo + (k : Int))
theorem rngD_len {lo : Int} {n : Nat} : (rngD lo n).length = n := by simp [rngD]
theorem rngD_get {lo : Int} {n i : Nat} {d : D} (h : (rngD lo n)[i]? = some d) : d = .int (lo + (i : Int)) := by
  simp only [rngD, List.getElem?_map] at h
  cases q : (List.range n)[i]? with
  | none => rw [q] at h; cases h
  | some k =>
    rw [q] at h
    have hk : k = i := by
      rw [List.getElem?_eq_some_iff] at q
      obtain ⟨hi, e⟩ := q
      simp at e
      exact e.symm
    subst hk
    cases h
    rfl
theorem jok_rng {κ : Kx} {F : Hp} {lo : Int} {n : Nat} : JOk κ (Itr lo n) F (rngD lo n) where
  go := fun i _ _ _ _ hi => by rw [rngD_len] at hi; exact hi
  yld := fun i d A F1 H1 ρ σ τ υ x H2 e1 g ed ⟨e, y⟩ => by
    subst e y
    rw [rngD_get ed]
    exact ⟨A, F1, .refl, g, .int _⟩
  stop := fun i _ _ _ _ hi => by rw [rngD_len] at hi; exact hi
/-- pairs -/
theorem new_tup {κ : Kx} {A : Fp} {F H : Hp} {ρ : Env} {σ : L2.St} {τ : List O} {υ : List V} (g : G κ A F H ρ σ τ υ) {p : Addr} {vs : List V} {ds : List D} (h : H p = none) (r : Reps κ F vs ds) :
    ∃ A2 F2, Stp true ρ A F H ρ A2 F2 (upd H p (.tup vs)) ∧ G κ A2 F2 (upd H p (.tup vs)) ρ σ τ υ ∧ Rep κ F2 (.ref p) (.tup ds) := by
  obtain ⟨g1, f1⟩ := g.share (.tup vs) h
  exact ⟨_, _, Stp.refl.then f1 (same_new h) fun _ => rfl, g1, .tup upd_same (r.mono f1.grow)⟩
def enumD : Nat → List D → List D
  | _, [] => []
  | k, d :: ds => .tup [.int (k : Int), d] :: enumD (k + 1) ds
theorem enumD_len : ∀ {k : Nat} {ds : List D}, (enumD k ds).length = ds.length
  | _, [] => rfl
  | k, _ :: ds => by simp [enumD, enumD_len (k := k + 1) (ds := ds)]
theorem enumD_get : ∀ {k i : Nat} {ds : List D} {d : D}, (enumD k ds)[i]? = some d → ∃ u, ds[i]? = some u ∧ d = .tup [.int ((k + i : Nat) : Int), u]
  | _, _, [], _, h => by simp [enumD] at h
  | k, 0, u :: ds, d, h => by
    simp [enumD] at h
    exact ⟨u, rfl, h.symm⟩
  | k, i + 1, _ :: ds, d, h => by
    simp only [enumD, List.getElem?_cons_succ] at h
    obtain ⟨u, h1, h2⟩ := enumD_get h
    exact ⟨u, by simpa using h1, by rw [h2]; congr 3; omega⟩
theorem jok_enum {κ : Kx} {F : Hp} {a : Addr} {vs : List V} {ds : List D} (h : F a = some (.lst vs)) (r : Reps κ F vs ds) : JOk κ (Ite κ.K a) F (enumD 0 ds) where
  go := fun i F1 H1 e1 e2 hi => by
    rw [enumD_len] at hi
    have hi' : i < vs.length := by rw [r.length]; exact hi
    exact ⟨vs, vs[i], SqL.of (e2 _ _ (e1 _ _ h)), by simp [hi']⟩
  yld := fun i d A F1 H1 ρ σ τ υ x H2 e1 g ed ⟨T, u, ex, hT, eH, y⟩ => by
    subst ex eH
    obtain ⟨w, h1, rfl⟩ := enumD_get ed
    obtain ⟨v, h3, h4⟩ := r.get i h1
    have := y vs (SqL.of (g.fh _ _ (e1 _ _ h)))
    rw [h3] at this; cases this
    rw [Nat.zero_add]
    exact new_tup g hT (.cons (.int _) (.cons (h4.mono e1) .nil))
  stop := fun i F1 H1 e1 e2 hi => ⟨vs, SqL.of (e2 _ _ (e1 _ _ h)), by rw [r.length]; rw [enumD_len] at hi; exact hi⟩
def zipD : List D → List D → List D
  | a :: as, b :: bs => .tup [a, b] :: zipD as bs
  | _, _ => []
theorem zipD_len : ∀ {as bs : List D}, (zipD as bs).length = min as.length bs.length
  | [], bs => by simp [zipD]
  | a :: as, [] => by simp [zipD]
  | a :: as, b :: bs => by simp only [zipD, List.length_cons, zipD_len (as := as) (bs := bs)]; omega
theorem zipD_get : ∀ {i : Nat} {as bs : List D} {d : D}, (zipD as bs)[i]? = some d → ∃ u w, as[i]? = some u ∧ bs[i]? = some w ∧ d = .tup [u, w]
  | i, [], bs, d, h => by simp [zipD] at h
  | i, a :: as, [], d, h => by simp [zipD] at h
  | 0, a :: as, b :: bs, d, h => by
    simp [zipD] at h
    exact ⟨a, b, rfl, rfl, h.symm⟩
  | i + 1, a :: as, b :: bs, d, h => by
    simp only [zipD, List.getElem?_cons_succ] at h
    obtain ⟨u, w, h1, h2, h3⟩ := zipD_get h
    exact ⟨u, w, by simpa using h1, by simpa using h2, h3⟩
theorem jok_zip {κ : Kx} {F : Hp} {a b : Addr} {vs ws : List V} {ds es : List D} (h : F a = some (.lst vs)) (r : Reps κ F vs ds) (h' : F b = some (.lst ws)) (r' : Reps κ F ws es) : JOk κ (Itz κ.K a b) F (zipD ds es) where
  go := fun i F1 H1 e1 e2 hi => by
    rw [zipD_len] at hi
    have hi' : i < vs.length := by rw [r.length]; omega
    have hi'' : i < ws.length := by rw [r'.length]; omega
    exact ⟨vs, ws, vs[i], ws[i], SqL.of (e2 _ _ (e1 _ _ h)), SqL.of (e2 _ _ (e1 _ _ h')), by simp [hi'], by simp [hi'']⟩
  yld := fun i d A F1 H1 ρ σ τ υ x H2 e1 g ed ⟨T, u, w, ex, hT, eH, y, y'⟩ => by
    subst ex eH
    obtain ⟨d1, d2, h1, h2, rfl⟩ := zipD_get ed
    obtain ⟨v, h3, h4⟩ := r.get i h1
    obtain ⟨v', h5, h6⟩ := r'.get i h2
    have := y vs (SqL.of (g.fh _ _ (e1 _ _ h)))
    rw [h3] at this; cases this
    have := y' ws (SqL.of (g.fh _ _ (e1 _ _ h')))
    rw [h5] at this; cases this
    exact new_tup g hT (.cons (h4.mono e1) (.cons (h6.mono e1) .nil))
  stop := fun i F1 H1 e1 e2 hi => ⟨vs, ws, SqL.of (e2 _ _ (e1 _ _ h)), SqL.of (e2 _ _ (e1 _ _ h')), by rw [r.length, r'.length]; rw [zipD_len] at hi; omega⟩
theorem jok_zipT {κ : Kx} {F : Hp} {a b : Addr} {vs ws : List V} {ds es : List D} (h : F a = some (.tup vs)) (r : Reps κ F vs ds) (h' : F b = some (.tup ws)) (r' : Reps κ F ws es) : JOk κ (ItzT κ.K a b) F (zipD ds es) where
  go := fun i F1 H1 e1 e2 hi => by
    rw [zipD_len] at hi
    have hi' : i < vs.length := by rw [r.length]; omega
    have hi'' : i < ws.length := by rw [r'.length]; omega
    exact ⟨vs, ws, vs[i], ws[i], SqT.of (e2 _ _ (e1 _ _ h)), SqT.of (e2 _ _ (e1 _ _ h')), by simp [hi'], by simp [hi'']⟩
  yld := fun i d A F1 H1 ρ σ τ υ x H2 e1 g ed ⟨T, u, w, ex, hT, eH, y, y'⟩ => by
    subst ex eH
    obtain ⟨d1, d2, h1, h2, rfl⟩ := zipD_get ed
    obtain ⟨v, h3, h4⟩ := r.get i h1
    obtain ⟨v', h5, h6⟩ := r'.get i h2
    have := y vs (SqT.of (g.fh _ _ (e1 _ _ h)))
    rw [h3] at this; cases this
    have := y' ws (SqT.of (g.fh _ _ (e1 _ _ h')))
    rw [h5] at this; cases this
    exact new_tup g hT (.cons (h4.mono e1) (.cons (h6.mono e1) .nil))
  stop := fun i F1 H1 e1 e2 hi => ⟨vs, ws, SqT.of (e2 _ _ (e1 _ _ h)), SqT.of (e2 _ _ (e1 _ _ h')), by rw [r.length, r'.length]; rw [zipD_len] at hi; omega⟩
section
variable {X : Cx} {W : WX'} {e a b tg : Expr} {p q : Bool} {ps pos tpos : Pos} {elts : List Expr} {kk : Nat}
theorem pi_either {t u : TI} (h1 : PI X tg e t) (h2 : PI X tg e u) : PI X tg e (fun σ H R => t σ H R ∨ u σ H R) := ⟨fun pins s σ H R I h => h.elim (h1.run pins s σ H R I) (h2.run pins s σ H R I)⟩
theorem pi_imp {t t' : TI} (h : PI X tg e t) (i : ∀ σ H R, t' σ H R → t σ H R) : PI X tg e t' := ⟨fun pins s σ H R I q => h.run pins s σ H R I (i σ H R q)⟩
def isLst : D → Bool
  | .lst _ => true
  | _ => false
/-- over a list or a tuple, shared -/
theorem dI_seq {m : M D} (hl : ∀ {t}, PE X e t → PI X tg e (iList X.K t)) (ht : ∀ {t}, PE X e t → PI X tg e (iTup X.K t)) (h : PE X e (tV (kx X) W p m)) : PI X tg e (tIt (kx X) W p (mBind m seqD)) :=
  pi_imp (pi_either (hl h) (ht h)) fun σ H R ⟨A, F, ρ, τ, υ, g, h⟩ => by
    have h1 := h.bind
    cases e1 : m ρ with
    | bad => rw [e1] at h1; exact h1.elim
    | exc d ρ1 =>
      rw [e1] at h1
      exact .inl ⟨A, F, ρ, τ, υ, g, by rw [e1]; exact h1⟩
    | ok d ρ1 =>
      rw [e1] at h1
      have h1 : Wp (kx X) W A F H σ τ υ (seqD d ρ1) _ := h1
      cases d with
      | lst xs =>
        refine .inl ⟨A, F, ρ, τ, υ, g, ?_⟩
        rw [e1]
        intro v A' F' H' s g' r
        obtain ⟨c, vs, rfl, h2, h3⟩ := r.lst_v
        exact ⟨c, rfl, ⟨vs, SqL.of (g'.fh _ _ h2)⟩, h1 _ A' F' H' s g' (jok_lst (SqL.of h2) h3)⟩
      | fz xs =>
        refine .inl ⟨A, F, ρ, τ, υ, g, ?_⟩
        rw [e1]
        intro v A' F' H' s g' r
        obtain ⟨c, vs, rfl, h2, h3⟩ := r.fz_v
        exact ⟨c, rfl, ⟨vs, g'.fh.seq h2⟩, h1 _ A' F' H' s g' (jok_lst h2 h3)⟩
      | tup xs =>
        refine .inr ⟨A, F, ρ, τ, υ, g, ?_⟩
        rw [e1]
        intro v A' F' H' s g' r
        obtain ⟨c, vs, rfl, h2, h3⟩ := r.tup_v
        exact ⟨c, rfl, ⟨vs, SqT.of (g'.fh _ _ h2)⟩, h1 _ A' F' H' s g' (jok_tup h2 h3)⟩
      | _ => exact h1.elim
def rng1 : List D → M (List D)
  | [.int j] => if -(2 ^ 62) ≤ j ∧ j < 2 ^ 62 then mPure (rngD 0 j.toNat) else fun _ => .bad
  | _ => fun _ => .bad
def rng2 : List D → M (List D)
  | [.int i, .int j] => if -(2 ^ 62) ≤ i ∧ i < 2 ^ 62 ∧ -(2 ^ 62) ≤ j ∧ j < 2 ^ 62 then mPure (rngD i (j - i).toNat) else fun _ => .bad
  | _ => fun _ => .bad
theorem dI_rng1 {κ : Kx} {ms : M (List D)} (h : PI X tg e (iRng1 (tVs κ W p ms))) : PI X tg e (tIt κ W p (mBind ms rng1)) :=
  pi_imp h fun σ H R ⟨A, F, ρ, τ, υ, g, h⟩ => ⟨A, F, ρ, τ, υ, g, h.bind.imp fun ds ρ' h vs A' F' H' s g' r => by
    unfold rng1 at h
    split at h
    · rename_i j
      split at h
      · rename_i hb
        cases r with
        | cons r r2 =>
          cases r2
          exact ⟨j, by rw [r.int_v], hb.1, hb.2, h _ A' F' H' s g' jok_rng⟩
      · exact h.elim
    · exact h.elim⟩
theorem dI_rng2 {κ : Kx} {ms : M (List D)} (h : PI X tg e (iRng2 (tVs κ W p ms))) : PI X tg e (tIt κ W p (mBind ms rng2)) :=
  pi_imp h fun σ H R ⟨A, F, ρ, τ, υ, g, h⟩ => ⟨A, F, ρ, τ, υ, g, h.bind.imp fun ds ρ' h vs A' F' H' s g' r => by
    unfold rng2 at h
    split at h
    · rename_i i j
      split at h
      · rename_i hb
        cases r with
        | cons r r2 =>
          cases r2 with
          | cons r2 r3 =>
            cases r3
            exact ⟨i, j, by rw [r.int_v, r2.int_v], hb, h _ A' F' H' s g' jok_rng⟩
      · exact h.elim
    · exact h.elim⟩
def enumL : List D → M (List D)
  | [.lst xs] => mPure (enumD 0 xs)
  | _ => fun _ => .bad
theorem dI_enumL {ms : M (List D)} (h : PI X tg e (iEnum X.K (tVs (kx X) W p ms))) : PI X tg e (tIt (kx X) W p (mBind ms enumL)) :=
  pi_imp h fun σ H R ⟨A, F, ρ, τ, υ, g, h⟩ => ⟨A, F, ρ, τ, υ, g, h.bind.imp fun ds ρ' h vs A' F' H' s g' r => by
    unfold enumL at h
    split at h
    · cases r with
      | cons r r2 =>
        cases r2
        obtain ⟨c, vs, rfl, h2, h3⟩ := r.lst_v
        exact ⟨c, vs, rfl, SqL.of (g'.fh _ _ h2), h _ A' F' H' s g' (jok_enum h2 h3)⟩
    · exact h.elim⟩
def zipM : List D → M (List D)
  | [.lst xs, .lst ys] => mPure (zipD xs ys)
  | [.tup xs, .tup ys] => mPure (zipD xs ys)
  | _ => fun _ => .bad
theorem dI_zip {ms : M (List D)} (h : PI X tg e (iZipA X.K (tVs (kx X) W p ms))) : PI X tg e (tIt (kx X) W p (mBind ms zipM)) :=
  pi_imp h fun σ H R ⟨A, F, ρ, τ, υ, g, h⟩ => ⟨A, F, ρ, τ, υ, g, h.bind.imp fun ds ρ' h vs A' F' H' s g' r => by
    unfold zipM at h
    split at h
    · cases r with
      | cons r r2 =>
        cases r2 with
        | cons r2 r3 =>
          cases r3
          obtain ⟨c, vs, rfl, h2, h3⟩ := r.lst_v
          obtain ⟨c', ws, rfl, h4, h5⟩ := r2.lst_v
          exact ⟨c, c', vs, ws, rfl, .inl ⟨SqL.of (g'.fh _ _ h2), SqL.of (g'.fh _ _ h4), h _ A' F' H' s g' (jok_zip h2 h3 h4 h5)⟩⟩
    · cases r with
      | cons r r2 =>
        cases r2 with
        | cons r2 r3 =>
          cases r3
          obtain ⟨c, vs, rfl, h2, h3⟩ := r.tup_v
          obtain ⟨c', ws, rfl, h4, h5⟩ := r2.tup_v
          exact ⟨c, c', vs, ws, rfl, .inr ⟨SqT.of (g'.fh _ _ h2), SqT.of (g'.fh _ _ h4), h _ A' F' H' s g' (jok_zipT h2 h3 h4 h5)⟩⟩
    · exact h.elim⟩
end
end DL

end

section
set_option Elab.async false
set_option linter.all false
set_option maxRecDepth 100000
/-! DL, part G: statements, loops, comprehensions. -/
namespace DL
open PySem L2 RZ

section
variable {κ : Kx} {W : WX'} {mu : List Nat} {E : Ends} {σ σ1 : L2.St} {A A1 : Fp} {F F1 H H1 : Hp} {ρ : Env} {α : Type}
theorem PsO.step {out : OutS} (h : PsO κ W mu E σ A F H out) (f : Fr A F H A1 F1 H1) (hm : ∀ i ∈ mu, σ1[i]? = σ[i]?) : PsO κ W mu E σ1 A1 F1 H1 out := by
  cases out with
  | bad => exact h
  | next ρ' => exact fun σ' A' F' H' f' g' m' => h σ' A' F' H' (f.trans f') g' fun i hi => (m' i hi).trans (hm i hi)
  | ret r ρ' => exact fun v σ' A' F' H' f' g' m' => h v σ' A' F' H' (f.trans f') g' fun i hi => (m' i hi).trans (hm i hi)
  | brk ρ' => exact fun σ' A' F' H' f' g' m' => h σ' A' F' H' (f.trans f') g' fun i hi => (m' i hi).trans (hm i hi)
  | cont ρ' => exact fun σ' A' F' H' f' g' m' => h σ' A' F' H' (f.trans f') g' fun i hi => (m' i hi).trans (hm i hi)
  | exc e ρ' => exact fun cls d σ' A' F' H' f' g' x' m' => h cls d σ' A' F' H' (f.trans f') g' x' fun i hi => (m' i hi).trans (hm i hi)
def sBind {α : Type} (m : M α) (k : α → MS) : MS := fun ρ => match m ρ with
  | .bad => .bad
  | .ok a ρ' => k a ρ'
  | .exc e ρ' => .exc e ρ'
theorem PsO.bind {m : M α} {k : α → MS} (h : PsO κ W mu E σ A F H (sBind m k ρ)) : Wp κ W A F H σ [] [] (m ρ) fun a ρ1 => PsO κ W mu E σ A F H (k a ρ1) := by
  unfold sBind at h
  cases e : m ρ with
  | bad => rw [e] at h; exact h
  | ok a ρ' => rw [e] at h; exact h
  | exc x ρ' =>
    rw [e] at h
    exact fun cls d A' F' H' f g q => h cls d σ A' F' H' f g q fun _ _ => rfl
theorem PsO.next {ρ' : Env} (h : PsO κ W mu E σ A F H (.next ρ')) (f : Fr A F H A1 F1 H1) (g : G κ A1 F1 H1 ρ' σ1 [] []) (hm : ∀ i ∈ mu, σ1[i]? = σ[i]?) : E.nx σ1 H1 := h σ1 A1 F1 H1 f g hm
end
def sNext : MS := fun ρ => .next ρ
def sSeq (m n : MS) : MS := fun ρ => match m ρ with
  | .next ρ' => n ρ'
  | o => o
def sIf (t : M Bool) (m n : MS) : MS := sBind t fun b => if b then m else n
def sRet (m : M O) : MS := sBind m fun r ρ => .ret r ρ
def sRetN : MS := fun ρ => .ret (.sh .non) ρ
def sExpr (m : M O) : MS := sBind m fun _ ρ => .next ρ
def sBrk : MS := fun ρ => .brk ρ
def sCont : MS := fun ρ => .cont ρ
def sBad : MS := fun _ => .bad
def sAsg (i : Nat) (m : M O) : MS := sBind m fun r ρ => .next (ρ.set i (some r))
def sTg (b : Bn) (m : M D) : MS := sBind m fun d ρ => match b d ρ with
  | some ρ' => .next ρ'
  | none => .bad
def sPar (i j : Nat) (ms : M (List O)) : MS := sBind ms fun rs ρ => match rs with
  | [r, s] => .next ((ρ.set j (some s)).set i (some r))
  | _ => .bad
def sPar3 (i j l : Nat) (ms : M (List O)) : MS := sBind ms fun rs ρ => match rs with
  | [r, s, t] => .next (((ρ.set l (some t)).set j (some s)).set i (some r))
  | _ => .bad
/-- expressions in a row: their values on the stack -/
def tEs (κ : Kx) (W : WX') (p : Bool) (m : M (List O)) : TA := fun σ H Q => ∃ A F ρ τ υ, G κ A F H ρ σ τ υ ∧ Wp κ W A F H σ τ υ (m ρ) fun rs ρ' => ∀ vs A' F' H', Stp p ρ A F H ρ' A' F' H' → G κ A' F' H' ρ' σ (τ ++ rs) (υ ++ vs) → vs.length = rs.length → Q vs H'
def mConsO (m : M O) (ms : M (List O)) : M (List O) := mBind m fun o => mBind ms fun os => mPure (o :: os)
theorem XX.pop {κ : Kx} {W : WX'} {A : Fp} {F H : Hp} {σ : L2.St} {τ : List O} {υ : List V} {e : D} {ρ' : Env} (x : XX κ W A F H σ τ υ e ρ') {r : O} {v : V} : XX κ W A F H σ (τ ++ [r]) (υ ++ [v]) e ρ' :=
  fun cls d A2 F2 H2 f2 g q => by
    obtain ⟨g', _, f'⟩ := g.pop
    exact x cls d _ F2 H2 (f2.trans f') g' q
theorem Wp.pop {κ : Kx} {W : WX'} {A : Fp} {F H : Hp} {σ : L2.St} {τ : List O} {υ : List V} {α : Type} {out : Out α} {q : α → Env → Prop} (h : Wp κ W A F H σ τ υ out q) {r : O} {v : V} : Wp κ W A F H σ (τ ++ [r]) (υ ++ [v]) out q := by
  cases out with
  | bad => exact h
  | ok a ρ' => exact h
  | exc e ρ' => exact XX.pop h
section
variable {X : Cx} {κ : Kx} {W : WX'} {mu : List Nat} {e c : Expr} {es : List Expr} {st : Stmt} {rest a b : List Stmt} {p q : Bool} {pos : Pos}
theorem dS_nil : PSs X [] (tS κ W mu sNext) := pss_imp pss_nil fun E σ H ⟨A, F, ρ, g, h⟩ => h σ A F H .refl g fun _ _ => rfl
theorem dS_cons {m n : MS} (h1 : PS X st (tS κ W mu m)) (h2 : PSs X rest (tS κ W mu n)) : PSs X (st :: rest) (tS κ W mu (sSeq m n)) := pss_imp (pss_cons h1 h2) fun E σ H ⟨A, F, ρ, g, h⟩ => by
  refine ⟨A, F, ρ, g, ?_⟩
  unfold sSeq at h
  cases e : m ρ with
  | next ρ' =>
    rw [e] at h
    exact fun σ' A' F' H' f' g' m' => ⟨A', F', ρ', g', PsO.step h f' m'⟩
  | bad => rw [e] at h; exact h
  | ret r ρ' => rw [e] at h; exact h
  | brk ρ' => rw [e] at h; exact h
  | cont ρ' => rw [e] at h; exact h
  | exc x ρ' => rw [e] at h; exact h
theorem dS_one {m : MS} (h : PS X st (tS κ W mu m)) : PSs X [st] (tS κ W mu m) := pss_one h
theorem dS_pass : PS X (.Pass pos) (tS κ W mu sNext) := ps_imp ps_pass fun E σ H ⟨A, F, ρ, g, h⟩ => h σ A F H .refl g fun _ _ => rfl
theorem dS_doc {x : Str} {j : Nat} {pos' : Pos} : PS X (.Expr (.Constant (.str x) j pos) pos') (tS κ W mu sNext) := ps_imp ps_doc fun E σ H ⟨A, F, ρ, g, h⟩ => h σ A F H .refl g fun _ _ => rfl
theorem dS_brk : PS X (.Break pos) (tS κ W mu sBrk) := ps_imp ps_break fun E σ H ⟨A, F, ρ, g, h⟩ => h σ A F H .refl g fun _ _ => rfl
theorem dS_cont : PS X (.Continue pos) (tS κ W mu sCont) := ps_imp ps_continue fun E σ H ⟨A, F, ρ, g, h⟩ => h σ A F H .refl g fun _ _ => rfl
theorem dS_bad : PS X st (tS κ W mu sBad) := ps_imp ps_never fun E σ H ⟨A, F, ρ, g, h⟩ => h
theorem dSs_bad : PSs X rest (tS κ W mu sBad) := pss_imp pss_never fun E σ H ⟨A, F, ρ, g, h⟩ => h
theorem dS_if {t : M Bool} {m n : MS} (ht : PT X c (tT κ W p t)) (ha : PSs X a (tS κ W mu m)) (hb : PSs X b (tS κ W mu n)) : PS X (.If c a b pos) (tS κ W mu (sIf t m n)) :=
  ps_imp (ps_if ht ha hb) fun E σ H ⟨A, F, ρ, g, h⟩ => ⟨A, F, ρ, [], [], g, h.bind.imp fun k ρ1 h A1 F1 H1 s1 g1 => by
    cases k with
    | true => exact ⟨A1, F1, ρ1, g1, PsO.step h s1.fr fun _ _ => rfl⟩
    | false => exact ⟨A1, F1, ρ1, g1, PsO.step h s1.fr fun _ _ => rfl⟩⟩
theorem dS_ret {m : M O} (h : PE X e (tE κ W p m)) : PS X (.Return (some e) pos) (tS κ W mu (sRet m)) := ps_imp (ps_ret h) fun E σ H ⟨A, F, ρ, g, h⟩ => ⟨A, F, ρ, [], [], g, h.bind.imp fun r ρ1 h v A1 F1 H1 s1 g1 => h v σ A1 F1 H1 s1.fr g1 fun _ _ => rfl⟩
theorem dS_retN : PS X (.Return none pos) (tS κ W mu sRetN) := ps_imp ps_retN fun E σ H ⟨A, F, ρ, g, h⟩ => h .non σ _ F H (g.pushSh .non).2 (g.pushSh .non).1 fun _ _ => rfl
theorem dS_expr {m : M O} (h : PE X e (tE κ W p m)) (hs : swapsWith e none pos.line X.env = pure false := by rfl) : PS X (.Expr e pos) (tS κ W mu (sExpr m)) := ps_imp (ps_expr h hs) fun E σ H ⟨A, F, ρ, g, h⟩ => ⟨A, F, ρ, [], [], g, h.bind.imp fun r ρ1 h v A1 F1 H1 s1 g1 => by
  obtain ⟨g2, _, f2⟩ := G.pop (τ := []) (υ := []) g1
  exact h σ _ F1 H1 (s1.fr.trans f2) g2 fun _ _ => rfl⟩
theorem dS_set {i : Nat} {x : Str} {pos' : Pos} {m : M O} (h : ∀ t, PE X e t → PS X (.Assign [.Name x pos'] e pos) (tAsg t (gName i))) (he : PE X e (tE κ W p m)) (hm : i ∉ mu) : PS X (.Assign [.Name x pos'] e pos) (tS κ W mu (sAsg i m)) :=
  ps_imp (h _ he) fun E σ H ⟨A, F, ρ, g, h⟩ => ⟨A, F, ρ, [], [], g, h.bind.imp fun r ρ1 h v A1 F1 H1 s1 g1 => by
    obtain ⟨g2, f2⟩ := G.assign (τ := []) (υ := []) (i := i) g1
    exact h _ _ F1 H1 (s1.fr.trans f2) g2 fun j hj => List.getElem?_set_ne (fun z => hm (by rw [z]; exact hj))⟩
theorem dS_tg {tg : Expr} {ts : List Nat} {b : Bn} {m : M D} (h : ∀ t u, PE X e t → PG X tg u → PS X (.Assign [tg] e pos) (tAsg t u)) (he : PE X e (tV κ W p m)) (hg : PG X tg (tBn κ ts b)) (hm : ∀ i ∈ mu, i ∉ ts) : PS X (.Assign [tg] e pos) (tS κ W mu (sTg b m)) :=
  ps_imp (h _ _ he hg) fun E σ H ⟨A, F, ρ, g, h⟩ => ⟨A, F, ρ, [], [], g, h.bind.imp fun d ρ1 h v A1 F1 H1 s1 g1 r => by
    cases e1 : b d ρ1 with
    | none => rw [e1] at h; exact h.elim
    | some ρ2 =>
      rw [e1] at h
      exact ⟨A1, F1, ρ1, [], [], d, ρ2, g1, r, e1, fun σ2 A2 f2 g2 n2 => h σ2 A2 F1 H1 (s1.fr.trans f2) g2 fun i hi => n2.2 i (hm i hi)⟩⟩
theorem dEs_nil : PA X [] (tEs κ W true (mPure [])) := pa_imp pa_nil fun σ H Q ⟨A, F, ρ, τ, υ, g, h⟩ => h [] A F H .refl (by simpa using g) rfl
theorem dEs_cons {m : M O} {ms : M (List O)} (h1 : PE X e (tE κ W p m)) (h2 : PA X es (tEs κ W q ms)) (hs : starEach (e :: es) X.env = (false, eval e X.env) :: starEach es X.env := by rfl) : PA X (e :: es) (tEs κ W (p && q) (mConsO m ms)) :=
  pa_imp (pa_cons h1 h2 hs) fun σ H Q ⟨A, F, ρ, τ, υ, g, h⟩ =>
    ⟨A, F, ρ, τ, υ, g, h.bind.imp fun r ρ1 h v A1 F1 H1 s1 g1 => ⟨A1, F1, ρ1, τ ++ [r], υ ++ [v], g1, ((h.step s1.fr).bind.pop).imp fun rs ρ2 h vs A2 F2 H2 s2 g2 l2 => h (v :: vs) A2 F2 H2 (s1.trans s2) (by simpa using g2) (by simp [l2])⟩⟩
theorem dS_par {i j : Nat} {s : Stmt} {ms : M (List O)} {es : List Expr} (h : ∀ t, PA X es t → PS X s (tPar i j t)) (ha : PA X es (tEs κ W p ms)) (hij : i ≠ j) (hi : i ∉ mu) (hj : j ∉ mu) : PS X s (tS κ W mu (sPar i j ms)) :=
  ps_imp (h _ ha) fun E σ H ⟨A, F, ρ, g, h⟩ => ⟨A, F, ρ, [], [], g, h.bind.imp fun rs ρ1 h vs A1 F1 H1 s1 g1 l1 => by
    split at h
    · rename_i r s
      match vs, l1 with
      | [v, w], _ =>
        refine ⟨v, w, rfl, ?_⟩
        obtain ⟨g2, f2⟩ := G.assign (τ := [r]) (υ := [v]) (r := s) (v := w) (i := j) g1
        obtain ⟨g3, f3⟩ := G.assign (τ := []) (υ := []) (i := i) g2
        have e1 : (List.set σ j (some w)).set i (some v) = (List.set σ i (some v)).set j (some w) := List.set_comm _ _ (Ne.symm hij)
        rw [e1] at g3
        refine h _ _ F1 H1 ((s1.fr.trans f2).trans f3) g3 fun k hk => ?_
        rw [List.getElem?_set_ne (fun z => hj (by rw [z]; exact hk)), List.getElem?_set_ne (fun z => hi (by rw [z]; exact hk))]
    · exact h.elim⟩
end
end DL

end

section
set_option Elab.async false
set_option linter.all false
set_option maxRecDepth 100000
/-! DL, part H: loops, comprehensions. -/
namespace DL
open PySem L2 RZ

/-! ### for -/
def forGo (b : Bn) (body : MS) : List D → MS
  | [], ρ => .next ρ
  | d :: ds, ρ => match b d ρ with
    | none => .bad
    | some ρ1 => match body ρ1 with
      | .next ρ2 => forGo b body ds ρ2
      | .cont ρ2 => forGo b body ds ρ2
      | .brk ρ2 => .next ρ2
      | .ret r ρ2 => .ret r ρ2
      | .exc e ρ2 => .exc e ρ2
      | .bad => .bad
theorem forGo_cons {b : Bn} {body : MS} {d : D} {ds : List D} {ρ : Env} : forGo b body (d :: ds) ρ = match b d ρ with
    | none => .bad
    | some ρ1 => match body ρ1 with
      | .next ρ2 => forGo b body ds ρ2
      | .cont ρ2 => forGo b body ds ρ2
      | .brk ρ2 => .next ρ2
      | .ret r ρ2 => .ret r ρ2
      | .exc e ρ2 => .exc e ρ2
      | .bad => .bad := rfl
def sFor (src : M (List D)) (b : Bn) (body : MS) : MS := sBind src fun ds => forGo b body ds
theorem drop_cons {α : Type} {xs : List α} {i : Nat} {x : α} (h : xs[i]? = some x) : xs.drop i = x :: xs.drop (i + 1) := by
  rw [List.getElem?_eq_some_iff] at h
  obtain ⟨hi, e⟩ := h
  rw [← e]
  exact List.drop_eq_getElem_cons hi
section
variable {X : Cx} {W : WX'} {mu ts : List Nat} {tg iter : Expr} {body : List Stmt} {p : Bool} {pos : Pos}
theorem dS_for {κ : Kx} {st : Stmt} {src : M (List D)} {b : Bn} {m : MS} {wi : TI} (h : ∀ g tb, PG X tg g → PSs X body tb → PS X st (tFor wi g tb)) (hi : ∀ σ H R, tIt κ W p src σ H R → wi σ H R) (hg : PG X tg (tBn κ ts b)) (hb : PSs X body (tS κ W mu m)) (hm : ∀ i ∈ mu, i ∉ ts) :
    PS X st (tS κ W mu (sFor src b m)) :=
  ps_imp (h _ _ hg hb) fun E σ H ⟨A, F, ρ, g, h⟩ => hi _ _ _ ⟨A, F, ρ, [], [], g, h.bind.imp fun ds ρ1 h J A1 F1 H1 s1 g1 j => by
    refine ⟨fun i n σ' H' => n = ds.length - i ∧ i ≤ ds.length ∧ ∃ A' F' ρ', Fr A F H A' F' H' ∧ Same F1 F' ∧ G κ A' F' H' ρ' σ' [] [] ∧ (∀ k ∈ mu, σ'[k]? = σ[k]?) ∧ forGo b m ds ρ1 = forGo b m (ds.drop i) ρ',
      ⟨ds.length, by simp, Nat.zero_le _, A1, F1, ρ1, s1.fr, Same.refl _, g1, fun _ _ => rfl, by simp⟩, ?_⟩
    rintro i n σ' H' ⟨rfl, hi, A', F', ρ', f', e', g', m', z'⟩
    by_cases hlt : i < ds.length
    · refine .inr ⟨j.go i F' H' e' g'.fh hlt, ?_⟩
      have ed : ds[i]? = some ds[i] := List.getElem?_eq_getElem hlt
      have h2 := h
      rw [z', drop_cons ed] at h2
      refine ⟨fun σ2 H2 => (i + 1 ≤ ds.length ∧ ∃ A' F' ρ', Fr A F H A' F' H2 ∧ Same F1 F' ∧ G κ A' F' H2 ρ' σ2 [] [] ∧ (∀ k ∈ mu, σ2[k]? = σ[k]?) ∧ forGo b m ds ρ1 = forGo b m (ds.drop (i + 1)) ρ'),
        fun σ2 H2 ⟨hle, x⟩ => ⟨ds.length - (i + 1), by omega, rfl, hle, x⟩, fun x H2 y => ?_⟩
      obtain ⟨A2, F2, s2, g2, r2⟩ := j.yld i _ A' F' H' ρ' σ' [] [] x H2 e' g' ed y
      rw [forGo_cons] at h2
      cases eb : b ds[i] ρ' with
      | none => rw [eb] at h2; exact h2.elim
      | some ρ3 =>
        rw [eb] at h2
        refine ⟨A2, F2, ρ', [], [], _, ρ3, g2, r2, eb, fun σ3 A3 f3 g3 n3 => ⟨A3, F2, ρ3, g3, ?_⟩⟩
        have hz : forGo b m ds ρ1 = (match m ρ3 with
          | .next ρ2 => forGo b m (ds.drop (i + 1)) ρ2
          | .cont ρ2 => forGo b m (ds.drop (i + 1)) ρ2
          | .brk ρ2 => .next ρ2
          | .ret r ρ2 => .ret r ρ2
          | .exc e ρ2 => .exc e ρ2
          | .bad => .bad) := by rw [z', drop_cons ed, forGo_cons, eb]
        have hm3 : ∀ k ∈ mu, σ3[k]? = σ[k]? := fun k hk => (n3.2 k (hm k hk)).trans (m' k hk)
        have fr3 : Fr A F H A3 F2 H2 := (f'.trans s2.fr).trans f3
        have gr3 : Same F1 F2 := e'.trans s2.fr.grow
        simp only at h2
        cases em : m ρ3 with
        | bad => rw [em] at h2; exact h2
        | next ρ4 =>
          rw [em] at hz
          exact fun σ4 A4 F4 H4 f4 g4 m4 => ⟨hlt, A4, F4, ρ4, fr3.trans f4, gr3.trans f4.grow, g4, fun k hk => (m4 k hk).trans (hm3 k hk), hz⟩
        | cont ρ4 =>
          rw [em] at hz
          exact fun σ4 A4 F4 H4 f4 g4 m4 => ⟨hlt, A4, F4, ρ4, fr3.trans f4, gr3.trans f4.grow, g4, fun k hk => (m4 k hk).trans (hm3 k hk), hz⟩
        | brk ρ4 =>
          rw [em] at h2
          exact fun σ4 A4 F4 H4 f4 g4 m4 => h2 σ4 A4 F4 H4 (fr3.trans f4) g4 fun k hk => (m4 k hk).trans (hm3 k hk)
        | ret r ρ4 =>
          rw [em] at h2
          exact fun v σ4 A4 F4 H4 f4 g4 m4 => h2 v σ4 A4 F4 H4 (fr3.trans f4) g4 fun k hk => (m4 k hk).trans (hm3 k hk)
        | exc e ρ4 =>
          rw [em] at h2
          exact fun cls d σ4 A4 F4 H4 f4 g4 x4 m4 => h2 cls d σ4 A4 F4 H4 (fr3.trans f4) g4 x4 fun k hk => (m4 k hk).trans (hm3 k hk)
    · have hi' : i = ds.length := by omega
      refine .inl ⟨j.stop i F' H' e' g'.fh (by omega), ?_⟩
      have h2 := h
      rw [z', hi', List.drop_length] at h2
      exact h2 σ' A' F' H' f' g' m'⟩
end

/-! ### comprehensions -/
def wipeE (ρ : Env) : List Nat → Env
  | [] => ρ
  | v :: vs => (wipeE ρ vs).set v none
theorem wipeE_len (ρ : Env) : ∀ vs : List Nat, (wipeE ρ vs).length = ρ.length
  | [] => rfl
  | v :: vs => by unfold wipeE; rw [List.length_set, wipeE_len ρ vs]
theorem wipeE_some {ρ : Env} {i : Nat} {o : O} : ∀ {vs : List Nat}, (wipeE ρ vs)[i]? = some (some o) → ρ[i]? = some (some o) ∧ i ∉ vs
  | [], h => ⟨h, by simp⟩
  | v :: vs, h => by
    unfold wipeE at h
    by_cases hi : v = i
    · subst hi
      rcases Nat.lt_or_ge v (wipeE ρ vs).length with q | q
      · rw [List.getElem?_set_self q] at h; cases h
      · rw [List.getElem?_eq_none (by simpa using q)] at h; cases h
    · rw [List.getElem?_set_ne hi] at h
      obtain ⟨h1, h2⟩ := wipeE_some h
      exact ⟨h1, by simp [h2]; exact fun e => hi e.symm⟩
/-- the slots vs as they were, where they were shared; else unknown -/
def backE (ρ0 ρ : Env) : List Nat → Env
  | [] => ρ
  | v :: vs => (backE ρ0 ρ vs).set v (match ρ0[v]? with
    | some (some (.fd (.sh d))) => some (.fd (.sh d))
    | _ => none)
theorem backE_len (ρ0 ρ : Env) : ∀ vs : List Nat, (backE ρ0 ρ vs).length = ρ.length
  | [] => rfl
  | v :: vs => by unfold backE; rw [List.length_set, backE_len ρ0 ρ vs]
theorem backE_some {ρ0 ρ : Env} {i : Nat} {o : O} : ∀ {vs : List Nat}, (backE ρ0 ρ vs)[i]? = some (some o) → (i ∉ vs ∧ ρ[i]? = some (some o)) ∨ (i ∈ vs ∧ ∃ d, o = .sh d ∧ ρ0[i]? = some (some (.sh d)))
  | [], h => .inl ⟨by simp, h⟩
  | v :: vs, h => by
    unfold backE at h
    by_cases hi : v = i
    · subst hi
      rcases Nat.lt_or_ge v (backE ρ0 ρ vs).length with q | q
      · rw [List.getElem?_set_self q] at h
        right
        refine ⟨by simp, ?_⟩
        split at h
        · rename_i d e
          cases h
          exact ⟨d, rfl, e⟩
        · cases h
      · rw [List.getElem?_eq_none (by simpa using q)] at h; cases h
    · rw [List.getElem?_set_ne hi] at h
      rcases backE_some h with ⟨h1, h2⟩ | ⟨h1, h2⟩
      · exact .inl ⟨by simp [h1]; exact fun e => hi e.symm, h2⟩
      · exact .inr ⟨by simp [h1], h2⟩
section
variable {κ : Kx} {A : Fp} {F H : Hp} {ρ : Env} {σ : L2.St} {τ : List O} {υ : List V}
theorem join_some {α : Type} {l : List (Option α)} {i : Nat} {a : α} (h : (l[i]?).join = some a) : l[i]? = some (some a) := by
  cases q : l[i]? with
  | none => rw [q] at h; cases h
  | some z => rw [q] at h; simp at h; rw [h]
theorem gWipe (g : G κ A F H ρ σ τ υ) (vs : List Nat) : G κ A F H (wipeE ρ vs) (wipe σ vs) τ υ :=
  ⟨by rw [wipeE_len, wipe_length]; exact g.len, g.lent, fun x o e => by
    cases x with
    | t k => exact g.own (.t k) o e
    | s i =>
      obtain ⟨h1, h2⟩ := wipeE_some (join_some e)
      obtain ⟨v, h3, h4⟩ := g.own (.s i) o (by simp [atO, h1])
      refine ⟨v, ?_, h4⟩
      simp only [atV] at h3 ⊢
      rw [wipe_out h2]
      exact h3, g.nd, g.dj, g.ff, g.ft, g.fh⟩
theorem gUnwipe {A0 : Fp} {F0 H0 : Hp} {ρ0 : Env} {τ0 : List O} {υ0 : List V} {vs : List Nat} (g0 : G κ A0 F0 H0 ρ0 σ τ0 υ0) (e : Same F0 F) (g : G κ A F H ρ (wipe σ vs) τ υ) :
    ∃ A', G κ A' F H (backE ρ0 ρ vs) σ τ υ ∧ Fr A F H A' F H := by
  let A' : Fp := fun x => match x with
    | .s i => if i ∈ vs then [] else A (.s i)
    | .t k => A (.t k)
  have sub : ∀ x b, b ∈ A' x → b ∈ A x := fun x b hb => by
    cases x with
    | t k => exact hb
    | s i =>
      have hb : b ∈ (if i ∈ vs then [] else A (.s i)) := hb
      split at hb
      · simp at hb
      · exact hb
  refine ⟨A', ⟨by rw [backE_len, g.len, wipe_length], g.lent, fun x o eo => ?_, fun x => ?_, fun x y b n hx hy => g.dj x y b n (sub x b hx) (sub y b hy), fun x b hb => g.ff x b (sub x b hb), fun x b hb => g.ft x b (sub x b hb), g.fh⟩, Fr.sub fun x b hb => ⟨x, sub x b hb⟩⟩
  · cases x with
    | t k => exact g.own (.t k) o eo
    | s i =>
      rcases backE_some (join_some eo) with ⟨h1, h2⟩ | ⟨h1, d, rfl, h2⟩
      · obtain ⟨v, h3, h4⟩ := g.own (.s i) o (by simp [atO, h2])
        refine ⟨v, ?_, ?_⟩
        · simp only [atV] at h3 ⊢
          rw [wipe_out h1] at h3
          exact h3
        · show Own κ F H o v (if i ∈ vs then [] else A (.s i))
          rw [if_neg h1]
          exact h4
      · obtain ⟨v, h3, h4⟩ := g0.own (.s i) _ (by simp only [atO, h2]; rfl)
        refine ⟨v, h3, ?_⟩
        show Own κ F H _ v (if i ∈ vs then [] else A (.s i))
        rw [if_pos h1]
        exact .fd (.sh (h4.sh_v.mono e))
  · cases x with
    | t k => exact g.nd (.t k)
    | s i =>
      show (if i ∈ vs then [] else A (.s i)).Nodup
      split
      · exact List.nodup_nil
      · exact g.nd _
end
theorem wipe_get {σ : L2.St} {i : Nat} : ∀ {vs : List Nat}, (wipe σ vs)[i]? = if i ∈ vs ∧ i < σ.length then some none else σ[i]?
  | [] => by simp [wipe]
  | v :: vs => by
    unfold wipe
    by_cases hv : v = i
    · subst hv
      rcases Nat.lt_or_ge v σ.length with q | q
      · rw [List.getElem?_set_self (by rw [wipe_length]; exact q), if_pos ⟨by simp, q⟩]
      · rw [List.getElem?_eq_none (by rw [List.length_set, wipe_length]; exact q), if_neg (by omega), List.getElem?_eq_none q]
    · rw [List.getElem?_set_ne hv, wipe_get (vs := vs)]
      have : (i ∈ v :: vs ∧ i < σ.length) ↔ (i ∈ vs ∧ i < σ.length) := by
        simp only [List.mem_cons]
        constructor
        · rintro ⟨h | h, q⟩
          · exact absurd h.symm hv
          · exact ⟨h, q⟩
        · rintro ⟨h, q⟩
          exact ⟨.inr h, q⟩
      simp only [this]
theorem wipe_nt {σ σ2 : L2.St} {ts vs : List Nat} (h : Nt ts (wipe σ vs) σ2) (hs : ∀ i ∈ ts, i ∈ vs) : wipe σ2 vs = wipe σ vs := by
  have hl : σ2.length = σ.length := by rw [h.1, wipe_length]
  apply List.ext_getElem?
  intro i
  rw [wipe_get, wipe_get, hl]
  by_cases hi : i ∈ vs
  · by_cases hq : i < σ.length
    · rw [if_pos ⟨hi, hq⟩, if_pos ⟨hi, hq⟩]
    · rw [if_neg (by simp [hq]), if_neg (by simp [hq]), List.getElem?_eq_none (by omega), List.getElem?_eq_none (by omega)]
  · rw [if_neg (fun z => hi z.1), if_neg (fun z => hi z.1), h.2 i fun z => hi (hs i z), wipe_out hi]
/-- the turns of a comprehension -/
def lcGo (vs : List Nat) (b : Bn) (t : M Bool) (e : M D) : List D → List D → M (List D)
  | [], acc, ρ => .ok acc ρ
  | d :: ds, acc, ρ => match b d ρ with
    | none => .bad
    | some ρ1 => match t ρ1 with
      | .ok true ρ2 => (match e ρ2 with
        | .ok y ρ3 => if acc.length < lim then lcGo vs b t e ds (acc ++ [y]) (wipeE ρ3 vs) else .bad
        | _ => .bad)
      | .ok false ρ2 => lcGo vs b t e ds acc (wipeE ρ2 vs)
      | _ => .bad
def mLc (vs : List Nat) (src : M (List D)) (b : Bn) (t : M Bool) (e : M D) : M O := mBind src fun ds ρ1 => match lcGo vs b t e ds [] (wipeE ρ1 vs) with
  | .ok acc ρ2 => .ok (.lst acc) (backE ρ1 ρ2 vs)
  | _ => .bad
theorem tYes_of {κ : Kx} {W : WX'} {σ : L2.St} {H : Hp} {Q : Bool → Hp → Prop} (h : tT κ W true (mPure true) σ H Q) : tYes σ H Q := by
  obtain ⟨A, F, ρ, τ, υ, g, h⟩ := h
  exact h A F H .refl g
theorem dTs_nil {X : Cx} {κ : Kx} {W : WX'} : PTs X [] (tT κ W true (mPure true)) := ⟨fun pins s σ H Q I h => pts_nil.run pins s σ H Q I (tYes_of h)⟩
theorem dTs_one {X : Cx} {κ : Kx} {W : WX'} {c : Expr} {p : Bool} {m : M Bool} (h : PT X c (tT κ W p m)) : PTs X [c] (tT κ W p m) := pts_one h
/-- the reading of a comprehension -/
theorem tLc_of {κ : Kx} {W W' : WX'} {p pt pe : Bool} {vs ts : List Nat} {src : M (List D)} {b : Bn} {t : M Bool} {e : M D} (hs : ∀ i ∈ ts, i ∈ vs) {wi : TI} (hi : ∀ σ H R, tIt κ W p src σ H R → wi σ H R) {σ : L2.St} {H : Hp} {Q : VK}
    (h : tE κ W false (mLc vs src b t e) σ H Q) : tLc wi (tBn κ ts b) (tT κ W' pt t) (tV κ W' pe e) vs σ H Q := by
  obtain ⟨A, F, ρ, τ, υ, g, h⟩ := h
  refine hi _ _ _ ⟨A, F, ρ, τ, υ, g, h.bind.imp fun ds ρ1 h J A1 F1 H1 s1 g1 j => ?_⟩
  intro D hD
  obtain ⟨g2, f2⟩ := g1.pushNew (r := .lst []) hD rfl (.fd (.ct ⟨[], upd_same, .nil⟩))
  cases ez : lcGo vs b t e ds [] (wipeE ρ1 vs) with
  | bad => rw [ez] at h; exact h.elim
  | exc _ _ => rw [ez] at h; exact h.elim
  | ok accZ ρZ =>
  rw [ez] at h
  have h : ∀ v A' F' H', Stp false ρ A F H (backE ρ1 ρZ vs) A' F' H' → G κ A' F' H' (backE ρ1 ρZ vs) σ (τ ++ [.lst accZ]) (υ ++ [v]) → Q v H' := h
  refine ⟨fun i n H' => n = ds.length - i ∧ i ≤ ds.length ∧ ∃ A' F' ρ' acc, Fr A F H A' F' H' ∧ Same F1 F' ∧ G κ A' F' H' ρ' (wipe σ vs) (τ ++ [.lst acc]) (υ ++ [.ref D]) ∧ lcGo vs b t e (ds.drop i) acc ρ' = .ok accZ ρZ,
    ⟨ds.length, by simp, Nat.zero_le _, _, F1, wipeE ρ1 vs, [], s1.fr.trans f2, Same.refl _, gWipe g2 vs, by rw [List.drop_zero]; exact ez⟩, ?_⟩
  rintro i n H' ⟨rfl, hi, A', F', ρ', acc, f', e', g', z'⟩
  by_cases hlt : i < ds.length
  · refine .inr ⟨j.go i F' H' e' g'.fh hlt, ?_⟩
    have ed : ds[i]? = some ds[i] := List.getElem?_eq_getElem hlt
    rw [drop_cons ed] at z'
    refine ⟨fun H2 => (i + 1 ≤ ds.length ∧ ∃ A' F' ρ' acc, Fr A F H A' F' H2 ∧ Same F1 F' ∧ G κ A' F' H2 ρ' (wipe σ vs) (τ ++ [.lst acc]) (υ ++ [.ref D]) ∧ lcGo vs b t e (ds.drop (i + 1)) acc ρ' = .ok accZ ρZ),
      fun H2 ⟨hle, x⟩ => ⟨ds.length - (i + 1), by omega, rfl, hle, x⟩, fun x H2 y => ?_⟩
    obtain ⟨A2, F2, s2, g2', r2⟩ := j.yld i _ A' F' H' ρ' _ _ _ x H2 e' g' ed y
    unfold lcGo at z'
    cases eb : b ds[i] ρ' with
    | none => rw [eb] at z'; cases z'
    | some ρ3 =>
      rw [eb] at z'
      refine ⟨A2, F2, ρ', _, _, _, ρ3, g2', r2, eb, fun σ3 A3 f3 g3 n3 => ⟨wipe_nt n3 hs, A3, F2, ρ3, _, _, g3, ?_⟩⟩
      have fr3 : Fr A F H A3 F2 H2 := (f'.trans s2.fr).trans f3
      have gr3 : Same F1 F2 := e'.trans s2.fr.grow
      simp only at z'
      cases et : t ρ3 with
      | bad => rw [et] at z'; cases z'
      | exc _ _ => rw [et] at z'; cases z'
      | ok k ρ4 =>
        rw [et] at z'
        intro A4 F4 H4 s4 g4
        cases k with
        | false =>
          have g5 := gWipe g4 vs
          rw [wipe_nt n3 hs] at g5
          rw [if_neg (by decide)]
          exact ⟨hlt, A4, F4, _, acc, fr3.trans s4.fr, gr3.trans s4.fr.grow, g5, z'⟩
        | true =>
          rw [if_pos rfl]
          refine ⟨A4, F4, ρ4, _, _, g4, ?_⟩
          simp only at z'
          cases ee : e ρ4 with
          | bad => rw [ee] at z'; cases z'
          | exc _ _ => rw [ee] at z'; cases z'
          | ok y ρ5 =>
            rw [ee] at z'
            intro v A5 F5 H5 s5 g5 r5
            simp only at z'
            split at z'
            · rename_i hl
              obtain ⟨a, ws, ea, h6, r6, w6⟩ := g5.writeT (ds' := acc ++ [y])
              cases ea
              obtain ⟨g7, f7⟩ := w6 (ws ++ [v]) (r6.append (.cons r5 .nil))
              have g8 := gWipe g7 vs
              rw [wipe_nt n3 hs] at g8
              exact ⟨ws, h6, by rw [r6.length, ← lim_eq]; exact hl, hlt, A5, F5, _, _, ((fr3.trans s4.fr).trans s5.fr).trans f7, (gr3.trans s4.fr.grow).trans s5.fr.grow, g8, z'⟩
            · cases z'
  · have hi' : i = ds.length := by omega
    refine .inl ⟨j.stop i F' H' e' g'.fh (by omega), ?_⟩
    rw [hi', List.drop_length] at z'
    have z' : Out.ok acc ρ' = Out.ok accZ ρZ := z'
    cases z'
    obtain ⟨A2, g3, f3⟩ := gUnwipe g1 e' g'
    exact h _ A2 F' H' (.no (f'.trans f3)) g3
end DL

end

section
set_option Elab.async false
set_option linter.all false
set_option maxRecDepth 100000
/-! DL, part I: defs and calls. -/
namespace DL
open PySem L2 RZ PyProof.Rows

/-! ### a def -/
abbrev Sem := List O → Out O
def W0 : WX' := fun _ _ _ _ => False
def keepE (mu : List Nat) (n : Nat) (ρ : Env) : Env := (List.range n).map fun i => if i ∈ mu then (ρ[i]?).join else none
def semOf (N n : Nat) (mu : List Nat) (m : MS) : Sem := fun os => if os.length = n then match m (os.map some ++ List.replicate (N - n) none) with
  | .ret r ρ' => .ok r (keepE mu n ρ')
  | .next ρ' => .ok (.sh .non) (keepE mu n ρ')
  | _ => .bad else .bad
def spD (κ : Kx) (n : Nat) (sem : Sem) : Sp := fun vs H Q E => vs.length = n ∧ ∃ A F os, G κ A F H (os.map some) (vs.map some) [] [] ∧ match sem os with
  | .ok r fs => ∀ v A' F' H', Fr A F H A' F' H' → G κ A' F' H' fs (vs.map some) [r] [v] → Q v H'
  | _ => False
section
variable {κ : Kx} {A : Fp} {F H : Hp} {ρ : Env} {σ : L2.St} {τ : List O} {υ : List V}
theorem atO_get {i : Nat} {o : O} (h : atO ρ τ (.s i) = some o) : ρ[i]? = some (some o) := join_some h
theorem gPad (g : G κ A F H ρ σ τ υ) (k : Nat) : G κ A F H (ρ ++ List.replicate k none) (σ ++ List.replicate k none) τ υ :=
  ⟨by simp [g.len], g.lent, fun x o e => by
    cases x with
    | t k => exact g.own (.t k) o e
    | s i =>
      have e1 := atO_get e
      have hi : i < ρ.length := by
        rcases Nat.lt_or_ge i ρ.length with q | q
        · exact q
        · rw [List.getElem?_append_right q, List.getElem?_replicate] at e1
          split at e1 <;> cases e1
      rw [List.getElem?_append_left hi] at e1
      obtain ⟨v, h1, h2⟩ := g.own (.s i) o (by simp [atO, e1])
      refine ⟨v, ?_, h2⟩
      simp only [atV] at h1 ⊢
      rw [List.getElem?_append_left (by rw [← g.len]; exact hi)]
      exact h1, g.nd, g.dj, g.ff, g.ft, g.fh⟩
theorem gCut {n : Nat} {mu : List Nat} {σc : L2.St} (g : G κ A F H ρ σ τ υ) (hn : σc.length = n) (hm : ∀ i ∈ mu, i < n → σ[i]? = σc[i]?) : G κ A F H (keepE mu n ρ) σc τ υ :=
  ⟨by simp [keepE, hn], g.lent, fun x o e => by
    cases x with
    | t k => exact g.own (.t k) o e
    | s i =>
      have e1 := atO_get e
      simp only [keepE, List.getElem?_map] at e1
      rcases Nat.lt_or_ge i n with q | q
      · rw [List.getElem?_range q] at e1
        simp only [Option.map_some, Option.some.injEq] at e1
        split at e1
        · rename_i hi
          obtain ⟨v, h1, h2⟩ := g.own (.s i) o e1
          refine ⟨v, ?_, h2⟩
          simp only [atV] at h1 ⊢
          rw [← hm i hi q]
          exact h1
        · cases e1
      · rw [List.getElem?_eq_none (by simpa using q)] at e1
        exact absurd e1 nofun, g.nd, g.dj, g.ff, g.ft, g.fh⟩
end
theorem fn_D {P : Program} {w : World} {K : PySem.W.Frag} {mg : Str → Option Value} {base : Heap} {x qual : Str} {st : Stmt} {f : Addr} {fd : FuncData} {N ps : List Str} {k : Nat} {mu : List Nat} {m : MS} (Fu : Fun K x qual st f fd) (S : FnScope N ps (defScope st)) (hps : ps.length ≤ N.length)
    (hb : ∀ (cdv : Value) (A : Around) (outer : List PySem.Env) (s : Shared) (H : Hp) (E : XK), Room k (A.deeper (envOfC qual (defScope st) s.heap.objs.size f cdv)) → PSs (cxOf CX0 P w K mg base N qual (defScope st) f cdv A outer s H E).nox (defBody st) (tS ⟨K, mg⟩ W0 mu m)) :
    FnOk P w K mg base CX0 (k + 1) f fd ps (spD ⟨K, mg⟩ ps.length (semOf N.length ps.length mu m)) := by
  refine Fu.ok S (fun vs H Q E h => h.1) fun cdv A outer s H vs Q E hr h => ⟨_, hb cdv A outer s H E hr, ?_⟩
  obtain ⟨hl, Af, F, os, g, h⟩ := h
  have ho : os.length = ps.length := by have := g.len; simp at this; omega
  have hv : (vs.map some).length = ps.length := by simp [hl]
  refine ⟨Af, F, os.map some ++ List.replicate (N.length - ps.length) none, ?_, ?_⟩
  · unfold L2.start
    rw [hl]
    exact gPad g _
  · simp only [semOf, if_pos ho] at h
    have hm : ∀ {σ' : L2.St}, (∀ i ∈ mu, σ'[i]? = (L2.start N vs)[i]?) → ∀ i ∈ mu, i < ps.length → σ'[i]? = (vs.map some)[i]? := fun q i hi hn => by
      rw [q i hi]
      unfold L2.start
      rw [List.getElem?_append_left (by rw [hv]; exact hn)]
    cases e : m (os.map some ++ List.replicate (N.length - ps.length) none) with
    | bad => rw [e] at h; exact h
    | brk _ => rw [e] at h; exact h.elim
    | cont _ => rw [e] at h; exact h.elim
    | exc _ _ => rw [e] at h; exact h.elim
    | next ρ' =>
      rw [e] at h
      intro σ' A' F' H' f' g' m'
      obtain ⟨g2, f2⟩ := (gCut g' hv (hm m')).pushSh .non
      exact h .non _ F' H' (f'.trans f2) g2
    | ret r ρ' =>
      rw [e] at h
      intro v σ' A' F' H' f' g' m'
      exact h v A' F' H' f' (gCut g' hv (hm m'))

/-! ### arguments -/
inductive Args (σ : L2.St) : List (Option Nat) → List V → List V → Prop
  | nil : Args σ [] [] []
  | slot {i : Nat} {v : V} {as : List (Option Nat)} {us vs : List V} : σ[i]? = some (some v) → Args σ as us vs → Args σ (some i :: as) us (v :: vs)
  | push {v : V} {as : List (Option Nat)} {us vs : List V} : Args σ as us vs → Args σ (none :: as) (v :: us) (v :: vs)
theorem Args.length {σ : L2.St} {as : List (Option Nat)} {us vs : List V} (h : Args σ as us vs) : vs.length = as.length := by
  induction h with
  | nil => rfl
  | slot _ _ ih => simp [ih]
  | push _ ih => simp [ih]
def tAs (κ : Kx) (W : WX') (as : List (Option Nat)) (m : M (List O)) : TA := fun σ H Q => ∃ A F ρ τ υ, G κ A F H ρ σ τ υ ∧ Wp κ W A F H σ τ υ (m ρ) fun rs ρ' => ∀ vs us A' F' H', Fr A F H A' F' H' → G κ A' F' H' ρ' σ (τ ++ rs) (υ ++ us) → us.length = rs.length → Args σ as us vs → Q vs H'
/-- a slot that is handed on by reference -/
def mHas (i : Nat) (ms : M (List O)) : M (List O) := fun ρ => match ρ[i]? with
  | some (some _) => ms ρ
  | _ => .bad
section
variable {X : Cx} {κ : Kx} {W : WX'} {e : Expr} {es : List Expr} {p : Bool} {as : List (Option Nat)}
theorem dA_nil : PA X [] (tAs κ W [] (mPure [])) := pa_imp pa_nil fun σ H Q ⟨A, F, ρ, τ, υ, g, h⟩ => h [] [] A F H .refl (by simpa using g) rfl .nil
theorem dA_push {m : M O} {ms : M (List O)} (h1 : PE X e (tE κ W p m)) (h2 : PA X es (tAs κ W as ms)) (hs : starEach (e :: es) X.env = (false, eval e X.env) :: starEach es X.env := by rfl) : PA X (e :: es) (tAs κ W (none :: as) (mConsO m ms)) :=
  pa_imp (pa_cons h1 h2 hs) fun σ H Q ⟨A, F, ρ, τ, υ, g, h⟩ =>
    ⟨A, F, ρ, τ, υ, g, h.bind.imp fun r ρ1 h v A1 F1 H1 s1 g1 => ⟨A1, F1, ρ1, τ ++ [r], υ ++ [v], g1, ((h.step s1.fr).bind.pop).imp fun rs ρ2 h vs us A2 F2 H2 s2 g2 l2 ar => h (v :: vs) (v :: us) A2 F2 H2 (s1.fr.trans s2) (by simpa using g2) (by simp [l2]) (.push ar)⟩⟩
theorem dA_slot {x : Str} {pos : Pos} {i : Nat} {ms : M (List O)} (h1 : PE X (.Name x pos) (tVar i)) (h2 : PA X es (tAs κ W as ms)) (hs : starEach (.Name x pos :: es) X.env = (false, eval (.Name x pos) X.env) :: starEach es X.env := by rfl) : PA X (.Name x pos :: es) (tAs κ W (some i :: as) (mHas i ms)) :=
  pa_imp (pa_cons h1 h2 hs) fun σ H Q ⟨A, F, ρ, τ, υ, g, h⟩ => by
    unfold mHas at h
    split at h
    · rename_i o e
      obtain ⟨v, h1, _⟩ := g.slot e
      exact ⟨v, h1, A, F, ρ, τ, υ, g, h.imp fun rs ρ2 h vs us A2 F2 H2 s2 g2 l2 ar => h (v :: vs) us A2 F2 H2 s2 g2 l2 (.slot h1 ar)⟩
    · exact h.elim
end
def fill : List (Option Nat) → List O → Env → Option (List O)
  | [], [], _ => some []
  | some i :: as, rs, ρ => match ρ[i]? with
    | some (some o) => match fill as rs ρ with
      | some os => some (o :: os)
      | none => none
    | _ => none
  | none :: as, r :: rs, ρ => match fill as rs ρ with
    | some os => some (r :: os)
    | none => none
  | _, _, _ => none
def slotSh (ρ : Env) (i : Nat) : Bool := match ρ[i]? with
  | some (some (.fd (.sh _))) => true
  | _ => false
def putBack (ρ0 : Env) : List (Option Nat) → Env → Env → Env
  | [], _, ρ => ρ
  | some i :: as, fs, ρ => putBack ρ0 as fs.tail (if slotSh ρ0 i = true then ρ else ρ.set i fs.head?.join)
  | none :: as, fs, ρ => putBack ρ0 as fs.tail ρ
def mCallF (sem : Sem) (as : List (Option Nat)) (ms : M (List O)) : M O := mBind ms fun rs ρ => match fill as rs ρ with
  | some os => match sem os with
    | .ok r fs => .ok r (putBack ρ as fs ρ)
    | _ => .bad
  | none => .bad
/-- where the j-th argument lies at the caller's -/
def srcIx : Nat → List (Option Nat) → Nat → Option Ix
  | _, [], _ => none
  | _, some i :: _, 0 => some (.s i)
  | k, none :: _, 0 => some (.t k)
  | k, some _ :: as, j + 1 => srcIx k as j
  | k, none :: as, j + 1 => srcIx (k + 1) as j
theorem srcIx_t : ∀ {as : List (Option Nat)} {k j k' : Nat}, srcIx k as j = some (.t k') → k ≤ k'
  | [], _, _, _, h => by simp [srcIx] at h
  | some i :: as, k, 0, k', h => by simp [srcIx] at h
  | none :: as, k, 0, k', h => by simp [srcIx] at h; omega
  | some i :: as, k, j + 1, k', h => srcIx_t (as := as) (by simpa [srcIx] using h)
  | none :: as, k, j + 1, k', h => by have := srcIx_t (as := as) (k := k + 1) (by simpa [srcIx] using h); omega
theorem srcIx_s : ∀ {as : List (Option Nat)} {k j i : Nat}, srcIx k as j = some (.s i) ↔ as[j]? = some (some i)
  | [], _, _, _ => by simp [srcIx]
  | some i' :: as, k, 0, i => by simp [srcIx]
  | none :: as, k, 0, i => by simp [srcIx]
  | some i' :: as, k, j + 1, i => by simpa [srcIx] using srcIx_s (as := as)
  | none :: as, k, j + 1, i => by simpa [srcIx] using srcIx_s (as := as) (k := k + 1)
theorem srcIx_inj : ∀ {as : List (Option Nat)} {k j j' : Nat} {y : Ix}, (as.filterMap id).Nodup → srcIx k as j = some y → srcIx k as j' = some y → j = j'
  | [], _, _, _, _, _, h, _ => by simp [srcIx] at h
  | a :: as, k, 0, 0, y, _, _, _ => rfl
  | some i :: as, k, 0, j' + 1, y, n, h, h' => by
    simp [srcIx] at h h'
    subst h
    have h2 := srcIx_s.mp h'
    have : i ∈ as.filterMap id := List.mem_filterMap.mpr ⟨some i, List.mem_iff_getElem?.mpr ⟨j', h2⟩, rfl⟩
    simp at n
    exact absurd (by simpa using this) n.1
  | some i :: as, k, j + 1, 0, y, n, h, h' => by
    simp [srcIx] at h h'
    subst h'
    have h2 := srcIx_s.mp h
    have : i ∈ as.filterMap id := List.mem_filterMap.mpr ⟨some i, List.mem_iff_getElem?.mpr ⟨j, h2⟩, rfl⟩
    simp at n
    exact absurd (by simpa using this) n.1
  | none :: as, k, 0, j' + 1, y, n, h, h' => by
    simp [srcIx] at h h'
    subst h
    have := srcIx_t h'
    omega
  | none :: as, k, j + 1, 0, y, n, h, h' => by
    simp [srcIx] at h h'
    subst h'
    have := srcIx_t h
    omega
  | some i :: as, k, j + 1, j' + 1, y, n, h, h' => by
    have n' : (as.filterMap id).Nodup := by simp at n ⊢; exact n.2
    have := srcIx_inj (as := as) (k := k) n' (by simpa [srcIx] using h) (by simpa [srcIx] using h')
    omega
  | none :: as, k, j + 1, j' + 1, y, n, h, h' => by
    have n' : (as.filterMap id).Nodup := by simp at n ⊢; exact n
    have := srcIx_inj (as := as) (k := k + 1) n' (by simpa [srcIx] using h) (by simpa [srcIx] using h')
    omega
theorem srcIx_O : ∀ {as : List (Option Nat)} {rs : List O} {ρ : Env} {τ : List O} {os : List O} {j : Nat} {o : O}, fill as rs ρ = some os → os[j]? = some o → ∃ y, srcIx τ.length as j = some y ∧ atO ρ (τ ++ rs) y = some o
  | [], [], ρ, τ, os, j, o, h, h' => by simp [fill] at h; subst h; simp at h'
  | [], _ :: _, ρ, τ, os, j, o, h, h' => by simp [fill] at h
  | some i :: as, rs, ρ, τ, os, j, o, h, h' => by
    unfold fill at h
    split at h
    · rename_i o1 e1
      split at h
      · rename_i os1 e2
        cases h
        cases j with
        | zero =>
          simp at h'
          subst h'
          exact ⟨.s i, rfl, by simp [atO, e1]⟩
        | succ j =>
          obtain ⟨y, h1, h2⟩ := srcIx_O (τ := τ) e2 (by simpa using h')
          exact ⟨y, by simpa [srcIx] using h1, h2⟩
      · cases h
    · cases h
  | none :: as, [], ρ, τ, os, j, o, h, h' => by simp [fill] at h
  | none :: as, r :: rs, ρ, τ, os, j, o, h, h' => by
    unfold fill at h
    split at h
    · rename_i os1 e2
      cases h
      cases j with
      | zero =>
        simp at h'
        subst h'
        exact ⟨.t τ.length, rfl, by simp [atO]⟩
      | succ j =>
        obtain ⟨y, h1, h2⟩ := srcIx_O (τ := τ ++ [r]) e2 (by simpa using h')
        exact ⟨y, by simpa [srcIx] using h1, by simpa using h2⟩
    · cases h
theorem srcIx_V {σ : L2.St} : ∀ {as : List (Option Nat)} {us vs : List V} {υ : List V} {j : Nat} {y : Ix}, Args σ as us vs → srcIx υ.length as j = some y → atV σ (υ ++ us) y = vs[j]?
  | _, _, _, υ, j, y, .nil, h => by simp [srcIx] at h
  | some i :: as, us, v :: vs, υ, 0, y, .slot e r, h => by
    simp [srcIx] at h
    subst h
    simp [atV, e]
  | some i :: as, us, v :: vs, υ, j + 1, y, .slot e r, h => by
    simpa using srcIx_V r (by simpa [srcIx] using h)
  | none :: as, u :: us, _ :: vs, υ, 0, y, .push r, h => by
    simp [srcIx] at h
    subst h
    simp [atV]
  | none :: as, u :: us, _ :: vs, υ, j + 1, y, .push r, h => by
    simpa using srcIx_V (υ := υ ++ [u]) r (by simpa [srcIx] using h)
theorem putBack_len {ρ0 : Env} : ∀ {as : List (Option Nat)} {fs ρ : Env}, (putBack ρ0 as fs ρ).length = ρ.length
  | [], _, _ => rfl
  | some i :: as, fs, ρ => by unfold putBack; rw [putBack_len]; split <;> simp
  | none :: as, fs, ρ => by unfold putBack; rw [putBack_len]
theorem putBack_get {ρ0 : Env} {i : Nat} {o : O} : ∀ {as : List (Option Nat)} {fs ρ : Env}, (putBack ρ0 as fs ρ)[i]? = some (some o) →
    (∃ j : Nat, as[j]? = some (some i) ∧ fs[j]? = some (some o) ∧ slotSh ρ0 i = false) ∨ (ρ[i]? = some (some o) ∧ (some i ∉ as ∨ slotSh ρ0 i = true))
  | [], _, _, h => .inr ⟨h, .inl (by simp)⟩
  | none :: as, fs, ρ, h => by
    unfold putBack at h
    rcases putBack_get h with ⟨j, h1, h2, h3⟩ | ⟨h1, h2⟩
    · exact .inl ⟨j + 1, by simpa using h1, by cases fs <;> simp_all, h3⟩
    · exact .inr ⟨h1, by simpa using h2⟩
  | some i' :: as, fs, ρ, h => by
    unfold putBack at h
    rcases putBack_get h with ⟨j, h1, h2, h3⟩ | ⟨h1, h2⟩
    · exact .inl ⟨j + 1, by simpa using h1, by cases fs <;> simp_all, h3⟩
    · by_cases hi : i' = i
      · subst hi
        cases q : slotSh ρ0 i' with
        | true =>
          rw [if_pos q] at h1
          exact .inr ⟨h1, .inr rfl⟩
        | false =>
          rw [if_neg (by simp [q])] at h1
          left
          refine ⟨0, rfl, ?_, rfl⟩
          rcases Nat.lt_or_ge i' ρ.length with z | z
          · rw [List.getElem?_set_self z] at h1
            cases fs with
            | nil => simp at h1
            | cons f fs => simp at h1; simp [h1]
          · rw [List.getElem?_eq_none (by simpa using z)] at h1; cases h1
      · have h1' : ρ[i]? = some (some o) := by
          split at h1
          · exact h1
          · rw [List.getElem?_set_ne hi] at h1; exact h1
        refine .inr ⟨h1', h2.elim (fun z => .inl ?_) .inr⟩
        simp [z]
        exact fun z => hi z.symm
def posOf : List (Option Nat) → Nat → Option Nat
  | [], _ => none
  | a :: as, i => if a = some i then some 0 else (posOf as i).map (· + 1)
theorem posOf_get : ∀ {as : List (Option Nat)} {i j : Nat}, posOf as i = some j → as[j]? = some (some i)
  | [], _, _, h => by simp [posOf] at h
  | a :: as, i, j, h => by
    unfold posOf at h
    split at h
    · rename_i e; cases h; simp [e]
    · cases q : posOf as i with
      | none => rw [q] at h; cases h
      | some j' =>
        rw [q] at h
        cases h
        simpa using posOf_get q
theorem posOf_none : ∀ {as : List (Option Nat)} {i : Nat}, posOf as i = none → some i ∉ as
  | [], _, _ => by simp
  | a :: as, i, h => by
    unfold posOf at h
    split at h
    · cases h
    · rename_i e
      cases q : posOf as i with
      | none =>
        have := posOf_none q
        simp [this]
        exact fun z => e z.symm
      | some j' => rw [q] at h; cases h
/-- a call's end: what the callee owned comes back -/
theorem gMerge {κ : Kx} {A A2 Ac A' : Fp} {F F2 H H2 : Hp} {ρ ρ2 ρ' : Env} {σ σ2 : L2.St} {τ τ2 τ' : List O} {υ υ2 υ' : List V} (g : G κ A F H ρ σ τ υ) (g2 : G κ A2 F2 H2 ρ2 σ2 τ2 υ2) (f : Ix → Option Ix) (d : Ix → Option Ix)
    (hc : ∀ y, Ac y = match f y with | some x => A x | none => []) (fr : Fr Ac F H A2 F2 H2)
    (hA : ∀ x z, d x = some z → A' x = A2 z) (hU : ∀ x, d x = none → ∀ b ∈ A' x, b ∈ A x ∧ ∀ y, f y ≠ some x) (hN : ∀ x, (A' x).Nodup) (hd : ∀ x x' z, d x = some z → d x' = some z → x = x')
    (len : ρ'.length = σ.length) (lent : τ'.length = υ'.length)
    (own : ∀ x o, atO ρ' τ' x = some o → (∃ z, d x = some z ∧ atO ρ2 τ2 z = some o ∧ atV σ υ' x = atV σ2 υ2 z) ∨ (d x = none ∧ A' x = A x ∧ ∃ z, atO ρ τ z = some o ∧ atV σ υ' x = atV σ υ z ∧ A z = A x)) :
    G κ A' F2 H2 ρ' σ τ' υ' ∧ Fr A F H A' F2 H2 := by
  have cA : ∀ y b, b ∈ Ac y → ∃ x, f y = some x ∧ b ∈ A x := fun y b hb => by
    rw [hc] at hb
    cases e : f y with
    | none => rw [e] at hb; simp at hb
    | some x => rw [e] at hb; exact ⟨x, rfl, hb⟩
  have nU : ∀ x, d x = none → ∀ b ∈ A' x, ∀ y, b ∉ Ac y := fun x hx b hb y hy => by
    obtain ⟨z, h1, h2⟩ := cA y b hy
    obtain ⟨h3, h4⟩ := hU x hx b hb
    refine g.dj z x b (fun e => ?_) h2 h3
    subst e
    exact h4 y h1
  have nZ : ∀ x z, d x = none → ∀ b ∈ A' x, b ∉ A2 z := fun x z hx b hb hz => by
    rcases fr.new z b hz with ⟨y, hy⟩ | e
    · exact nU x hx b hb y hy
    · exact g.notin e x (hU x hx b hb).1
  refine ⟨⟨len, lent, fun x o e => ?_, hN, fun x y b n hx hy => ?_, fun x b hb => ?_, fun x b hb => ?_, g2.fh⟩, ⟨fun b o e n => ?_, fr.there, fun x b hb => ?_, fr.grow, fun b e => ?_⟩⟩
  · rcases own x o e with ⟨z, h1, h2, h3⟩ | ⟨h1, h2, z, h3, h4, h5⟩
    · obtain ⟨v, h5, h6⟩ := g2.own z o h2
      exact ⟨v, h3.trans h5, by rw [hA x z h1]; exact h6⟩
    · obtain ⟨v, h6, h7⟩ := g.own z o h3
      refine ⟨v, h4.trans h6, ?_⟩
      rw [h2, ← h5]
      exact h7.mono fr.grow fun b hb u q => fr.keep b u q fun y => nU x h1 b (by rw [h2, ← h5]; exact hb) y
  · cases ex : d x with
    | some z =>
      rw [hA x z ex] at hx
      cases ey : d y with
      | some z' =>
        rw [hA y z' ey] at hy
        exact g2.dj z z' b (fun e => n (hd x y z ex (by rw [ey, e]))) hx hy
      | none => exact nZ y z ey b hy hx
    | none =>
      cases ey : d y with
      | some z' =>
        rw [hA y z' ey] at hy
        exact nZ x z' ex b hx hy
      | none => exact g.dj x y b n (hU x ex b hx).1 (hU y ey b hy).1
  · cases ex : d x with
    | some z => rw [hA x z ex] at hb; exact g2.ff z b hb
    | none =>
      cases q : F2 b with
      | none => rfl
      | some u =>
        obtain ⟨h1, h2⟩ := hU x ex b hb
        rcases fr.fnew b (by rw [q]; simp) with e | e | ⟨y, hy⟩
        · exact absurd (g.ff x b h1) e
        · exact absurd h1 (g.notin e x)
        · exact absurd hy (nU x ex b hb y)
  · cases ex : d x with
    | some z => rw [hA x z ex] at hb; exact g2.ft z b hb
    | none =>
      obtain ⟨o, h1, h2⟩ := g.ft x b (hU x ex b hb).1
      exact ⟨o, fr.keep b o h1 fun y => nU x ex b hb y, h2⟩
  · exact fr.keep b o e fun y hy => let ⟨x, _, h2⟩ := cA y b hy; n x h2
  · cases ex : d x with
    | some z =>
      rw [hA x z ex] at hb
      rcases fr.new z b hb with ⟨y, hy⟩ | e
      · obtain ⟨x', _, h2⟩ := cA y b hy
        exact .inl ⟨x', h2⟩
      · exact .inr e
    | none => exact .inl ⟨x, (hU x ex b hb).1⟩
  · rcases fr.fnew b e with e | e | ⟨y, hy⟩
    · exact .inl e
    · exact .inr (.inl e)
    · obtain ⟨x', _, h2⟩ := cA y b hy
      exact .inr (.inr ⟨x', h2⟩)
theorem fill_len : ∀ {as : List (Option Nat)} {rs os : List O} {ρ : Env}, fill as rs ρ = some os → os.length = as.length
  | [], [], _, _, h => by simp [fill] at h; subst h; rfl
  | [], _ :: _, _, _, h => by simp [fill] at h
  | some i :: as, rs, os, ρ, h => by
    unfold fill at h
    split at h
    · split at h
      · rename_i e; cases h; simp [fill_len e]
      · cases h
    · cases h
  | none :: as, [], os, ρ, h => by simp [fill] at h
  | none :: as, r :: rs, os, ρ, h => by
    unfold fill at h
    split at h
    · rename_i e; cases h; simp [fill_len e]
    · cases h
/-- f(..): a def of the module -/
theorem de_call {X : Cx} {κ : Kx} {W : WX'} {e : Expr} {es : List Expr} {n : Nat} {sem : Sem} {E : XK} {as : List (Option Nat)} {ms : M (List O)} (h : ∀ t, PA X es t → PE X e (tCall (spD κ n sem) [] E t)) (ha : PA X es (tAs κ W as ms))
    (hn : as.length = n := by rfl) (nd : (as.filterMap id).Nodup := by decide) : PE X e (tE κ W false (mCallF sem as ms)) :=
  pe_imp (h _ ha) fun σ H Q ⟨A, F, ρ, τ, υ, g, h⟩ => ⟨A, F, ρ, τ, υ, g, h.bind.imp fun rs ρ1 h vs us A1 F1 H1 f1 g1 l1 ar => by
    have hlu : τ.length = υ.length := g.lent
    cases ef : fill as rs ρ1 with
    | none => rw [ef] at h; exact h.elim
    | some os =>
    rw [ef] at h
    cases es : sem os with
    | bad => simp only [es] at h; exact h.elim
    | exc _ _ => simp only [es] at h; exact h.elim
    | ok r fs =>
    simp only [es] at h
    have h : ∀ v A' F' H', Stp false ρ A F H (putBack ρ1 as fs ρ1) A' F' H' → G κ A' F' H' (putBack ρ1 as fs ρ1) σ (τ ++ [r]) (υ ++ [v]) → Q v H' := h
    show spD κ n sem (vs ++ []) H1 Q E
    rw [List.append_nil]
    let f : Ix → Option Ix := fun x => match x with
      | .s j => srcIx τ.length as j
      | .t _ => none
    let Ac : Fp := fun y => match f y with
      | some x => A1 x
      | none => []
    have hc : ∀ y, Ac y = match f y with | some x => A1 x | none => [] := fun _ => rfl
    have lo : os.length = as.length := fill_len ef
    have gc := g1.re (A' := Ac) (ρ' := os.map some) (σ' := vs.map some) (τ' := []) (υ' := []) f (by simp [lo, ar.length]) rfl hc (fun x x' y e e' => by
        cases x with
        | t _ => cases e
        | s j =>
          cases x' with
          | t _ => cases e'
          | s j' => rw [srcIx_inj nd e e']) (fun x o e => by
        cases x with
        | t k => simp [atO] at e
        | s j =>
          have e1 := atO_get e
          rw [List.getElem?_map] at e1
          have e2 : os[j]? = some o := by
            cases q : os[j]? with
            | none => rw [q] at e1; cases e1
            | some z => rw [q] at e1; cases e1; rfl
          obtain ⟨y, h1, h2⟩ := srcIx_O (τ := τ) ef e2
          refine ⟨y, h1, h2, ?_⟩
          rw [hlu] at h1
          rw [srcIx_V ar h1]
          simp only [atV, List.getElem?_map]
          cases vs[j]? <;> rfl)
    refine ⟨by rw [ar.length]; exact hn, Ac, F1, os, gc.1, ?_⟩
    rw [es]
    intro v A2 F2 H2 f2 g2
    let d : Ix → Option Ix := fun x => match x with
      | .t k => if k = τ.length then some (.t 0) else none
      | .s i => match posOf as i with
        | some j => if slotSh ρ1 i = true then none else some (.s j)
        | none => none
    let B' : Fp := fun x => match x with
      | .t k => if k < τ.length then A1 (.t k) else []
      | .s i => A1 (.s i)
    let A' : Fp := fun x => match d x with
      | some z => A2 z
      | none => B' x
    have shN : ∀ i, slotSh ρ1 i = true → A1 (.s i) = [] := fun i q => by
      unfold slotSh at q
      split at q
      · rename_i dd eq
        obtain ⟨w, h1, h2⟩ := g1.slot eq
        exact h2.sh_nil
      · cases q
    have dN : ∀ i, d (.s i) = none → slotSh ρ1 i = true ∨ some i ∉ as := fun i q => by
      have q : (match posOf as i with
        | some j => if slotSh ρ1 i = true then none else some (Ix.s j)
        | none => none) = none := q
      cases ep : posOf as i with
      | none => exact .inr (posOf_none ep)
      | some j =>
        rw [ep] at q
        simp only at q
        split at q
        · exact .inl (by assumption)
        · cases q
    have A'n : ∀ x, d x = none → A' x = B' x := fun x q => by
      show (match d x with
        | some z => A2 z
        | none => B' x) = _
      rw [q]
    have A's : ∀ x z, d x = some z → A' x = A2 z := fun x z q => by
      show (match d x with
        | some z => A2 z
        | none => B' x) = _
      rw [q]
    have hU : ∀ x, d x = none → ∀ b ∈ A' x, b ∈ A1 x ∧ ∀ y, f y ≠ some x := fun x q b hb => by
      rw [A'n x q] at hb
      cases x with
      | t k =>
        have hb : b ∈ (if k < τ.length then A1 (.t k) else []) := hb
        split at hb
        · rename_i hk
          refine ⟨hb, fun y e => ?_⟩
          cases y with
          | t _ => cases e
          | s j =>
            have := srcIx_t (show srcIx τ.length as j = some (.t k) from e)
            omega
        · simp at hb
      | s i =>
        refine ⟨hb, fun y e => ?_⟩
        rcases dN i q with z | z
        · have hb : b ∈ A1 (.s i) := hb
          rw [shN i z] at hb; simp at hb
        · cases y with
          | t _ => cases e
          | s j =>
            have := srcIx_s.mp (show srcIx τ.length as j = some (.s i) from e)
            exact z (List.mem_iff_getElem?.mpr ⟨j, this⟩)
    have m := gMerge (ρ' := putBack ρ1 as fs ρ1) (τ' := τ ++ [r]) (υ' := υ ++ [v]) (A' := A') g1 g2 f d hc f2 A's hU (fun x => by
        cases q : d x with
        | some z => rw [A's x z q]; exact g2.nd z
        | none =>
          rw [A'n x q]
          cases x with
          | t k =>
            show (if k < τ.length then A1 (.t k) else []).Nodup
            split
            · exact g1.nd _
            · exact List.nodup_nil
          | s i => exact g1.nd _) (fun x x' z e e' => by
        cases x with
        | t k =>
          have e : (if k = τ.length then some (Ix.t 0) else none) = some z := e
          split at e
          · rename_i hk
            cases e
            cases x' with
            | t k' =>
              have e' : (if k' = τ.length then some (Ix.t 0) else none) = some (Ix.t 0) := e'
              split at e'
              · rename_i hk'; rw [hk, hk']
              · cases e'
            | s i' =>
              have e' : (match posOf as i' with
                | some j => if slotSh ρ1 i' = true then none else some (Ix.s j)
                | none => none) = some (Ix.t 0) := e'
              split at e'
              · split at e' <;> cases e'
              · cases e'
          · cases e
        | s i =>
          have e : (match posOf as i with
            | some j => if slotSh ρ1 i = true then none else some (Ix.s j)
            | none => none) = some z := e
          split at e
          · rename_i j ej
            split at e
            · cases e
            · cases e
              cases x' with
              | t k' =>
                have e' : (if k' = τ.length then some (Ix.t 0) else none) = some (Ix.s j) := e'
                split at e' <;> cases e'
              | s i' =>
                have e' : (match posOf as i' with
                  | some j => if slotSh ρ1 i' = true then none else some (Ix.s j)
                  | none => none) = some (Ix.s j) := e'
                split at e'
                · rename_i j' ej'
                  split at e'
                  · cases e'
                  · cases e'
                    have h1 := posOf_get ej
                    have h2 := posOf_get ej'
                    rw [h1] at h2
                    cases h2
                    rfl
                · cases e'
          · cases e) (by rw [putBack_len]; exact g1.len) (by simp [hlu]) (fun x o e => by
        cases x with
        | t k =>
          by_cases hk : k = τ.length
          · subst hk
            rw [atO_top] at e
            cases e
            refine .inl ⟨.t 0, if_pos rfl, rfl, ?_⟩
            rw [hlu, atV_top]
            rfl
          · rw [atO_app (fun z => hk (by cases z; rfl))] at e
            have hl : k < τ.length := by
              rcases Nat.lt_or_ge k τ.length with q | q
              · exact q
              · simp [atO, List.getElem?_eq_none q] at e
            have dn : d (.t k) = none := if_neg hk
            refine .inr ⟨dn, (A'n (.t k) dn).trans (if_pos hl), .t k, ?_, ?_, rfl⟩
            · simp only [atO] at e ⊢
              rw [List.getElem?_append_left hl]
              exact e
            · simp only [atV]
              rw [List.getElem?_append_left (by omega), List.getElem?_append_left (by omega)]
        | s i =>
          rcases putBack_get (atO_get e) with ⟨j, h1, h2, h3⟩ | ⟨h1, h2⟩
          · cases ep : posOf as i with
            | none => exact absurd (List.mem_iff_getElem?.mpr ⟨j, h1⟩) (posOf_none ep)
            | some j' =>
              have hj : j' = j := srcIx_inj (k := 0) nd (srcIx_s.mpr (posOf_get ep)) (srcIx_s.mpr h1)
              subst hj
              have ds : d (.s i) = some (.s j') := by
                show (match posOf as i with
                  | some j => if slotSh ρ1 i = true then none else some (Ix.s j)
                  | none => none) = _
                rw [ep]
                simp [h3]
              refine .inl ⟨.s j', ds, by simp [atO, h2], ?_⟩
              have := srcIx_V (υ := υ) ar (srcIx_s.mpr h1)
              simp only [atV] at this ⊢
              rw [this, List.getElem?_map]
              cases vs[j']? <;> rfl
          · have dn : d (.s i) = none := by
              show (match posOf as i with
                | some j => if slotSh ρ1 i = true then none else some (Ix.s j)
                | none => none) = _
              cases ep : posOf as i with
              | none => rfl
              | some j' =>
                rcases h2 with z | z
                · exact absurd (List.mem_iff_getElem?.mpr ⟨j', posOf_get ep⟩) z
                · simp [z]
            exact .inr ⟨dn, A'n (.s i) dn, .s i, by simp [atO, h1], rfl, rfl⟩)
    exact h v A' F2 H2 (.no (f1.trans m.2)) m.1⟩
end DL

end

section
set_option Elab.async false
set_option linter.all false
set_option maxRecDepth 100000
/-! DL, part J: changes in place, dict displays, late reads, in, isinstance. -/
namespace DL
open PySem L2 RZ

section
variable {κ : Kx} {A : Fp} {F H : Hp} {ρ : Env} {σ : L2.St} {τ : List O} {υ : List V}
/-- a new object that nobody tracks -/
theorem gJunk (g : G κ A F H ρ σ τ υ) {p : Addr} (o : HO) (h : H p = none) : G κ A F (upd H p o) ρ σ τ υ ∧ Fr A F H A F (upd H p o) := by
  have eH : Same H (upd H p o) := same_new h
  refine ⟨⟨g.len, g.lent, fun x u e => ?_, g.nd, g.dj, g.ff, fun x b hb => ?_, fun b u e => eH b u (g.fh b u e)⟩, ⟨fun b u e _ => eH b u e, fun b e => ?_, fun x _ hb => .inl ⟨x, hb⟩, Same.refl _, fun b e => .inl e⟩⟩
  · obtain ⟨v, h1, h2⟩ := g.own x u e
    exact ⟨v, h1, h2.mono (Same.refl _) fun b _ o e => eH b o e⟩
  · obtain ⟨u, e, n⟩ := g.ft x b hb
    exact ⟨u, eH b u e, n⟩
  · cases q : H b with
    | none => exact absurd q e
    | some u => rw [eH b u q]; simp
theorem sJunk (g : G κ A F H ρ σ τ υ) {p : Addr} (o : HO) (h : H p = none) {pp : Bool} : G κ A F (upd H p o) ρ σ τ υ ∧ Stp pp ρ A F H ρ A F (upd H p o) :=
  ⟨(gJunk g o h).1, Stp.refl.then (gJunk g o h).2 (same_new h) fun _ => rfl⟩
end

/-! ### a slot's list -/
def sApp (i : Nat) (m : M D) : MS := fun ρ => match ρ[i]? with
  | some (some (.fd (.ct (.lst _)))) => sBind m (fun d ρ' => match ρ'[i]? with
    | some (some (.fd (.ct (.lst ds)))) => if ds.length < lim then .next (ρ'.set i (some (.lst (ds ++ [d])))) else .bad
    | _ => .bad) ρ
  | _ => .bad
section
variable {X : Cx} {W : WX'} {mu : List Nat} {e : Expr} {p : Bool} {pos : Pos}
theorem dS_app {i : Nat} {st : Stmt} {m : M D} (h : ∀ t, PA X [e] t → PS X st (tDrop (tBM X.K "list" rAppend (tVar i) t))) (he : PE X e (tV (kx X) W p m)) (hs : starEach [e] X.env = (false, eval e X.env) :: starEach [] X.env := by rfl) : PS X st (tS (kx X) W mu (sApp i m)) :=
  ps_imp (h _ (pa_cons he pa_nil hs)) fun E σ H ⟨A, F, ρ, g, h⟩ => by
    unfold sApp at h
    split at h
    · rename_i ds0 e0
      obtain ⟨v0, h0, w0⟩ := g.slot e0
      obtain ⟨a0, vs0, rfl, _, h1, r1⟩ := w0.lst_own
      refine ⟨.ref a0, h0, ?_, A, F, ρ, [], [], g, h.bind.imp fun d ρ1 h v A1 F1 H1 s1 g1 r => ?_⟩
      · exact .inl ⟨rfl, vs0, .inl (.inl h1)⟩
      · split at h
        · rename_i ds1 e1
          obtain ⟨a, vs, h2, h3, h4, h5, w⟩ := g1.writeS (ds' := ds1 ++ [d]) e1
          rw [h0] at h2
          cases h2
          split at h
          · rename_i hl
            obtain ⟨g2, f2⟩ := w (vs ++ [v]) (h5.append (.cons r .nil))
            exact ⟨a0, vs, v, rfl, rfl, h4, by rw [h5.length, ← lim_eq]; exact hl, h _ _ F1 _ (s1.fr.trans f2) g2 fun _ _ => rfl⟩
          · exact h.elim
        · exact h.elim
    · exact h.elim
end
/-! ### dicts -/
def setAt {κ α : Type} [DecidableEq κ] : List κ → List α → κ → α → List α
  | n :: ns, v :: vs, k, d => (if n = k then d else v) :: setAt ns vs k d
  | _, vs, _, _ => vs
def putKs {κ : Type} [DecidableEq κ] (ks : List κ) (k : κ) : List κ := if k ∈ ks then ks else ks ++ [k]
def putVs {κ α : Type} [DecidableEq κ] (ks : List κ) (vs : List α) (k : κ) (d : α) : List α := if k ∈ ks then setAt ks vs k d else vs ++ [d]
theorem any_mem {κ : Type} [DecidableEq κ] (kvs : List (κ × V)) (k : κ) : (kvs.any fun kv => decide (kv.1 = k)) = true ↔ k ∈ kvs.map (·.1) := by
  simp only [List.any_eq_true, decide_eq_true_eq, List.mem_map]
theorem putK_fst {κ : Type} [DecidableEq κ] (kvs : List (κ × V)) (k : κ) (v : V) : (putK kvs k v).map (·.1) = putKs (kvs.map (·.1)) k := by
  unfold putK putKs
  by_cases h : k ∈ kvs.map (·.1)
  · rw [if_pos ((any_mem kvs k).mpr h), if_pos h, List.map_map]
    apply List.map_congr_left
    intro p _
    show (if p.1 = k then (p.1, v) else p).1 = p.1
    split <;> rfl
  · rw [if_neg (fun z => h ((any_mem kvs k).mp z)), if_neg h]
    simp
theorem setAt_reps {κ : Type} [DecidableEq κ] {κx : Kx} {F : Hp} {v : V} {d : D} (r : Rep κx F v d) (k : κ) : ∀ {kvs : List (κ × V)} {ds : List D}, Reps κx F (kvs.map (·.2)) ds → Reps κx F ((kvs.map fun kv => if kv.1 = k then (kv.1, v) else kv).map (·.2)) (setAt (kvs.map (·.1)) ds k d)
  | [], _, .nil => .nil
  | (n, u) :: kvs, _ :: ds, .cons h hs => by
    simp only [List.map_cons, setAt]
    refine .cons ?_ (setAt_reps r k hs)
    by_cases e : n = k
    · rw [if_pos e, if_pos e]; exact r
    · rw [if_neg e, if_neg e]; exact h
theorem putK_reps {κ : Type} [DecidableEq κ] {κx : Kx} {F : Hp} {v : V} {d : D} (r : Rep κx F v d) (k : κ) {kvs : List (κ × V)} {ds : List D} (h : Reps κx F (kvs.map (·.2)) ds) : Reps κx F ((putK kvs k v).map (·.2)) (putVs (kvs.map (·.1)) ds k d) := by
  unfold putK putVs
  by_cases hk : k ∈ kvs.map (·.1)
  · rw [if_pos ((any_mem kvs k).mpr hk), if_pos hk]
    exact setAt_reps r k h
  · rw [if_neg (fun z => hk ((any_mem kvs k).mp z)), if_neg hk, List.map_append]
    exact h.append (.cons r .nil)
def putO (o : O) (k d : D) : Option O := match o, k with
  | .fd (.ct (.dk ks vs)), k => match keyD k with
    | some k => if ks.length < lim then some (.fd (.ct (.dk (putKs ks k) (putVs ks vs k d)))) else none
    | none => none
  | .fd (.ct (.dt ks vs)), .tup k => match keysD k with
    | some k => if ks.length < lim then some (.fd (.ct (.dt (putKs ks k) (putVs ks vs k d)))) else none
    | none => none
  | _, _ => none
def sPut (i : Nat) (mk mv : M D) : MS := sBind mv fun d ρ => match ρ[i]? with
  | some (some _) => sBind mk (fun k ρ' => match ρ'[i]? with
    | some (some o) => match putO o k d with
      | some o' => .next (ρ'.set i (some o'))
      | none => .bad
    | _ => .bad) ρ
  | _ => .bad
theorem Own.ct_v {κ : Kx} {F H : Hp} {c : Ct} {v : V} {S : List Addr} (w : Own κ F H (.fd (.ct c)) v S) : ∃ a, v = .ref a ∧ S = [a] ∧ OwnC κ F H c a := by
  cases w with
  | fd w => cases w with
    | ct w => exact ⟨_, rfl, rfl, w⟩
/-- a slot's one cell changes -/
theorem gPutS {κ : Kx} {A : Fp} {F H : Hp} {ρ : Env} {σ : L2.St} {τ : List O} {υ : List V} {c c' : Ct} {i : Nat} {a : Addr} {u : HO} (g : G κ A F H ρ σ τ υ) (h : ρ[i]? = some (some (.fd (.ct c)))) (hv : σ[i]? = some (some (.ref a))) (w : OwnC κ F (upd H a u) c' a) :
    G κ A F (upd H a u) (ρ.set i (some (.fd (.ct c')))) σ τ υ ∧ Fr A F H A F (upd H a u) := by
  obtain ⟨v, h1, h2⟩ := g.slot h
  obtain ⟨b, rfl, hS, _⟩ := h2.ct_v
  rw [hv] at h1; cases h1
  have hi : i < ρ.length := by
    rcases Nat.lt_or_ge i ρ.length with q | q
    · exact q
    · rw [List.getElem?_eq_none q] at h; cases h
  have q := g.write1 (ρ' := ρ.set i (some (.fd (.ct c')))) (τ' := τ) (x := .s i) (o := .fd (.ct c)) (o' := .fd (.ct c')) (a := a) (u := u) (by simp) rfl (by simp [atO, h]) (by rw [hS]; simp) (fun o e => by simp [atO, hi] at e; exact e.symm)
    (fun y o n e => by
      cases y with
      | t k => exact e
      | s j =>
        have hj : j ≠ i := fun z => n (by rw [z])
        simp only [atO] at e ⊢
        rw [List.getElem?_set_ne (Ne.symm hj)] at e
        exact e) (v := .ref a) (by simp [atV, hv]) (by rw [hS]; exact .fd (.ct w))
  rw [upA_id] at q
  exact q
section
variable {X : Cx} {W : WX'} {mu : List Nat} {e k : Expr} {p q : Bool} {pos : Pos}
theorem dS_put {i : Nat} {st : Stmt} {x : Str} {px : Pos} {mk mv : M D} (h : ∀ td ty tv, PE X (.Name x px) td → PE X k ty → PE X e tv → PS X st (sDPut td ty tv)) (hx : PE X (.Name x px) (tVar i)) (hk : PE X k (tV (kx X) W p mk)) (he : PE X e (tV (kx X) W q mv)) : PS X st (tS (kx X) W mu (sPut i mk mv)) :=
  ps_imp (h _ _ _ hx hk he) fun E σ H ⟨A, F, ρ, g, h⟩ => ⟨A, F, ρ, [], [], g, h.bind.imp fun d ρ1 h v A1 F1 H1 s1 g1 r1 => by
    split at h
    · rename_i o0 e0
      obtain ⟨v0, h0, w0⟩ := g1.slot e0
      refine ⟨v0, h0, A1, F1, ρ1, [], [], g1, (PsO.bind h).step s1.fr |>.imp fun k ρ2 h y A2 F2 H2 s2 g2 r2 => ?_⟩
      split at h
      · rename_i o1 e1
        split at h
        · rename_i o' eo
          unfold putO at eo
          split at eo
          · rename_i ks vs kd
            split at eo
            · rename_i k' ek
              split at eo
              · rename_i hl
                cases eo
                obtain ⟨v2, h2, w2⟩ := g2.slot e1
                rw [h0] at h2; cases h2
                obtain ⟨a, rfl, _, kvs, h3, rfl, h5⟩ := w2.ct_v
                have hk := key_v r2 ek
                subst hk
                have hv' := r1.mono s2.fr.grow
                obtain ⟨g3, f3⟩ := gPutS (c' := .dk (putKs (kvs.map (·.1)) k') (putVs (kvs.map (·.1)) _ k' d)) (u := .dK (putK kvs k' v)) g2 e1 h0 ⟨putK kvs k' v, upd_same, putK_fst kvs k' v, putK_reps hv' k' h5⟩
                exact ⟨a, _, rfl, DPut.k h3 (by rw [← lim_eq]; simpa using hl), h _ _ F2 _ ((s1.fr.trans s2.fr).trans f3) g3 fun _ _ => rfl⟩
              · cases eo
            · cases eo
          · rename_i ks vs kd
            split at eo
            · rename_i k' ek
              split at eo
              · rename_i hl
                cases eo
                obtain ⟨v2, h2, w2⟩ := g2.slot e1
                rw [h0] at h2; cases h2
                obtain ⟨a, rfl, _, kvs, h3, rfl, h5⟩ := w2.ct_v
                obtain ⟨b, ws, rfl, hb, rb⟩ := r2.tup_v
                have hk := keys_v rb ek
                subst hk
                have hv' := r1.mono s2.fr.grow
                obtain ⟨g3, f3⟩ := gPutS (c' := .dt (putKs (kvs.map (·.1)) k') (putVs (kvs.map (·.1)) _ k' d)) (u := .dT (putK kvs k' v)) g2 e1 h0 ⟨putK kvs k' v, upd_same, putK_fst kvs k' v, putK_reps hv' k' h5⟩
                exact ⟨a, _, rfl, DPut.t h3 (g2.fh _ _ hb) (by rw [← lim_eq]; simpa using hl), h _ _ F2 _ ((s1.fr.trans s2.fr).trans f3) g3 fun _ _ => rfl⟩
              · cases eo
            · cases eo
          · cases eo
        · exact h.elim
      · exact h.elim
    · exact h.elim⟩
end
/-! displays -/
def tPD (κ : Kx) (W : WX') (m : M (List (D × D))) (σ : L2.St) (H : Hp) (Q : List (V × V) → Hp → Prop) : Prop := ∃ A F ρ τ υ, G κ A F H ρ σ τ υ ∧ Wp κ W A F H σ τ υ (m ρ) fun ds ρ' => ∀ ps A' F' H', Fr A F H A' F' H' → G κ A' F' H' ρ' σ τ υ →
  Reps κ F' (ps.map (·.1)) (ds.map (·.1)) → Reps κ F' (ps.map (·.2)) (ds.map (·.2)) → Q ps H'
def DP (X : Cx) (W : WX') (pos : Pos) (ks : List (Option Expr)) (vs : List Expr) (m : M (List (D × D))) : Prop := ∃ trs, PPs X pos ks vs trs ∧ ∀ σ H Q, tPD (kx X) W m σ H Q → tPairs trs σ H Q
def mConsP (mk mv : M D) (ms : M (List (D × D))) : M (List (D × D)) := mBind mk fun k => mBind mv fun v => mBind ms fun ds => mPure ((k, v) :: ds)
theorem dP_nil {X : Cx} {W : WX'} {pos : Pos} : DP X W pos [] [] (mPure []) := ⟨[], pps_nil, fun σ H Q ⟨A, F, ρ, τ, υ, g, h⟩ => h [] A F H .refl g .nil .nil⟩
theorem dP_cons {X : Cx} {W : WX'} {pos : Pos} {k v : Expr} {ks : List (Option Expr)} {vs : List Expr} {p q : Bool} {mk mv : M D} {ms : M (List (D × D))} (hk : PE X k (tV (kx X) W p mk)) (hv : PE X v (tV (kx X) W q mv)) (hr : DP X W pos ks vs ms) : DP X W pos (some k :: ks) (v :: vs) (mConsP mk mv ms) := by
  obtain ⟨trs, h, i⟩ := hr
  refine ⟨_, pps_cons hk hv h, fun σ H Q ⟨A, F, ρ, τ, υ, g, h⟩ => ⟨A, F, ρ, τ, υ, g, h.bind.imp fun dk ρ1 h x A1 F1 H1 s1 g1 r1 => ⟨A1, F1, ρ1, τ, υ, g1, (h.step s1.fr).bind.imp fun dv ρ2 h y A2 F2 H2 s2 g2 r2 => i _ _ _ ⟨A2, F2, ρ2, τ, υ, g2, (h.step s2.fr).bind.imp fun ds ρ3 h ps A3 F3 H3 f3 g3 r3 r4 =>
    h ((x, y) :: ps) A3 F3 H3 ((s1.fr.trans s2.fr).trans f3) g3 (.cons (r1.mono (s2.fr.grow.trans f3.grow)) r3) (.cons (r2.mono f3.grow) r4)⟩⟩⟩⟩
def mDisp (m : M (List (D × D))) : M O := mBind m fun ds => match keysD (ds.map (·.1)) with
  | some ks => if ks.Nodup ∧ ds.length ≤ 15 then mPure (.fd (.ct (.dk ks (ds.map (·.2))))) else fun _ => .bad
  | none => fun _ => .bad
theorem mergeK_nd : ∀ {more kvs : List (Key × V)}, ((kvs ++ more).map (·.1)).Nodup → mergeK kvs more = kvs ++ more
  | [], kvs, _ => by simp [mergeK]
  | p :: more, kvs, h => by
    have hp : p.1 ∉ kvs.map (·.1) := fun z => by
      simp only [List.map_append, List.map_cons] at h
      exact (List.nodup_append.mp h).2.2 _ z _ (by simp) rfl
    have e : putK kvs p.1 p.2 = kvs ++ [p] := by
      unfold putK
      rw [if_neg (fun z => hp ((any_mem kvs p.1).mp z))]
    show mergeK (putK kvs p.1 p.2) more = _
    rw [e, mergeK_nd (by simpa using h)]
    simp
theorem pairs_of {κ : Kx} {F : Hp} : ∀ {ps : List (V × V)} {ds : List (D × D)} {ks : List Key}, Reps κ F (ps.map (·.1)) (ds.map (·.1)) → keysD (ds.map (·.1)) = some ks → ∃ kvs : List (Key × V), ps = kvs.map (fun kv => (kV kv.1, kv.2)) ∧ kvs.map (·.1) = ks ∧ kvs.map (·.2) = ps.map (·.2) := by
  intro ps ds ks r e
  have h := keys_v r e
  refine ⟨ks.zip (ps.map (·.2)), ?_, ?_, ?_⟩
  · clear r e
    induction ps generalizing ks with
    | nil => cases ks <;> simp at h ⊢
    | cons p ps ih => cases ks with
      | nil => simp at h
      | cons k ks => simp at h ⊢; exact ⟨by rw [← h.1], by simpa using ih h.2⟩
  · have hl : ks.length = (ps.map (·.2)).length := by have := congrArg List.length h; simp at this ⊢; omega
    exact List.map_fst_zip (Nat.le_of_eq hl)
  · have hl : ks.length = (ps.map (·.2)).length := by have := congrArg List.length h; simp at this ⊢; omega
    exact List.map_snd_zip (Nat.le_of_eq hl.symm)
theorem dE_disp {X : Cx} {W : WX'} {pos : Pos} {ks : List (Option Expr)} {vs : List Expr} {m : M (List (D × D))} (h : DP X W pos ks vs m) (hall : ks.all (·.isSome) = true := by rfl) (hl : ks.length = vs.length := by rfl) (h0 : ks ≠ [] := by nofun) (h15 : ks.length ≤ 15 := by decide) :
    PE X (.Dict ks vs pos) (tE (kx X) W false (mDisp m)) := by
  obtain ⟨trs, hp, i⟩ := h
  refine pe_imp (pe_disp hp hall hl h0 h15) fun σ H Q ⟨A, F, ρ, τ, υ, g, h⟩ p hpn => ?_
  obtain ⟨g1, f1⟩ := g.pushNew (r := .fd (.ct (.dk [] []))) (o := .dK []) hpn rfl (.fd (.ct ⟨[], upd_same, rfl, .nil⟩))
  refine i _ _ _ ⟨_, F, ρ, _, _, g1, ((h.bind.step f1).pop).imp fun ds ρ1 h ps A2 F2 H2 f2 g2 r1 r2 => ?_⟩
  have hlu : τ.length = υ.length := g.lent
  obtain ⟨u, h3, h4⟩ := g2.own (.t τ.length) _ atO_top
  rw [hlu, atV_top] at h3; cases h3
  obtain ⟨b, eb, hS, kvs0, h5, h6, h7⟩ := h4.ct_v
  cases eb
  have hk0 : kvs0 = [] := by simpa using h6
  subst hk0
  refine ⟨h5, ?_⟩
  cases ek : keysD (ds.map (·.1)) with
  | none => rw [ek] at h; exact h.elim
  | some ks1 =>
    rw [ek] at h
    simp only at h
    split at h
    · rename_i hc
      obtain ⟨kvs, e1, e2, e3⟩ := pairs_of r1 ek
      have hlen : kvs.length ≤ 15 := by
        have q := r2.length
        rw [List.length_map, List.length_map] at q
        have q2 := congrArg List.length e3
        rw [List.length_map, List.length_map] at q2
        omega
      refine ⟨kvs, e1, hlen, ?_⟩
      rw [mergeK_nd (kvs := []) (by simpa [e2] using hc.1), List.nil_append]
      have q := g2.write1 (ρ' := ρ1) (τ' := τ ++ [.fd (.ct (.dk ks1 (ds.map (·.2))))]) (x := .t τ.length) (o := .fd (.ct (.dk [] []))) (o' := .fd (.ct (.dk ks1 (ds.map (·.2))))) (a := p) (u := .dK kvs) rfl (by simp) atO_top (by rw [hS]; simp) (fun o e => by rw [atO_top] at e; cases e; rfl)
        (fun y o n e => by rw [atO_app n] at e ⊢; exact e) (v := .ref p) (by rw [hlu]; exact atV_top) (by rw [hS]; exact .fd (.ct ⟨kvs, upd_same, e2, by rw [e3]; exact r2⟩))
      exact h _ _ F2 _ (.no ((f1.trans f2).trans q.2)) q.1
    · exact h.elim
end DL

end

section
set_option Elab.async false
set_option linter.all false
set_option maxRecDepth 100000
/-! DL, part K: operands read late, owned operands; in; isinstance; sorted. -/
namespace DL
open PySem L2 RZ

/-! ### operands -/
/-- the left operand is a slot, read when the operation is done -/
def mOpN (i : Nat) (f : D → D → Option O) (mb : M (Option Nat × O)) : M O := fun ρ => match ρ[i]? with
  | some (some _) => mBind mb (fun y ρ' => match ρ'[i]? with
    | some (some o) => match f o.toD y.2.toD with
      | some r => .ok r ρ'
      | none => .bad
    | _ => .bad) ρ
  | _ => .bad
/-- the left operand is new, kept on the stack -/
def mOpS (f : D → D → Option O) (ma : M O) (mb : M (Option Nat × O)) : M O := mBind ma fun x => mBind mb fun y => match f x.toD y.2.toD with
  | some r => mPure r
  | none => fun _ => .bad
section
variable {X : Cx} {κ : Kx} {W : WX'} {a b : Expr} {pa pb : Bool} {ma : M O} {mb : M (Option Nat × O)} {pos : Pos} {r : R2} {f : D → D → Option O}
theorem tOp_ofN {i : Nat} (hs : Op2 κ r f) {σ : L2.St} {H : Hp} {Q : VK} (h : tE κ W false (mOpN i f mb) σ H Q) : tOp r (tVar i) (tB κ W pb mb) σ H Q := by
  obtain ⟨A, F, ρ, τ, υ, g, h⟩ := h
  unfold mOpN at h
  split at h
  · rename_i o0 e0
    obtain ⟨v1, h1, w1⟩ := g.slot e0
    refine ⟨v1, h1, A, F, ρ, τ, υ, g, h.bind.imp fun y ρ2 h v2 B2 A2 F2 H2 f2 g2 w2 _ => ?_⟩
    split at h
    · rename_i o e
      obtain ⟨v1', h1', w1'⟩ := g2.slot e
      rw [h1] at h1'; cases h1'
      cases e3 : f o.toD y.2.toD with
      | none => rw [e3] at h; exact h.elim
      | some z =>
        rw [e3] at h
        refine hs A2 F2 H2 ρ2 σ τ υ g2 o y.2 v1 v2 _ B2 w1' w2 z e3 Q fun v H3 ⟨A3, F3, f3, g3⟩ => ?_
        exact h v A3 F3 H3 (.no (f2.fr.trans f3.fr)) g3
    · exact h.elim
  · exact h.elim
theorem tOp_ofS (hs : Op2 κ r f) {σ : L2.St} {H : Hp} {Q : VK} (h : tE κ W false (mOpS f ma mb) σ H Q) : tOp r (tE κ W pa ma) (tB κ W pb mb) σ H Q := by
  obtain ⟨A, F, ρ, τ, υ, g, h⟩ := h
  refine ⟨A, F, ρ, τ, υ, g, h.bind.imp fun x ρ1 h v1 A1 F1 H1 s1 g1 => ?_⟩
  refine ⟨A1, F1, ρ1, τ ++ [x], υ ++ [v1], g1, ((h.step s1.fr).bind.pop).imp fun y ρ2 h v2 B2 A2 F2 H2 s2 g2 w2 _ => ?_⟩
  obtain ⟨g3, w1, f3⟩ := g2.pop
  cases e3 : f x.toD y.2.toD with
  | none => rw [e3] at h; exact h.elim
  | some z =>
    rw [e3] at h
    exact hs _ F2 H2 ρ2 σ τ υ g3 x y.2 v1 v2 _ B2 w1 w2 z e3 Q fun v H4 ⟨A4, F4, s4, g4⟩ => h v A4 F4 H4 (.no (((s1.fr.trans s2.fr).trans f3).trans s4.fr)) g4
theorem de_opN {i : Nat} {op : Operator} (ho : OpR X (binaryOp op) r) (hs : Op2 κ r f) (ha : PE X a (tVar i)) (hb : PE X b (tB κ W pb mb)) : PE X (.BinOp a op b pos) (tE κ W false (mOpN i f mb)) :=
  pe_imp (pe_op ho ha hb) fun _ _ _ h => tOp_ofN hs h
theorem de_opS {op : Operator} (ho : OpR X (binaryOp op) r) (hs : Op2 κ r f) (ha : PE X a (tE κ W pa ma)) (hb : PE X b (tB κ W pb mb)) : PE X (.BinOp a op b pos) (tE κ W false (mOpS f ma mb)) :=
  pe_imp (pe_op ho ha hb) fun _ _ _ h => tOp_ofS hs h
theorem de_cmpN {i : Nat} {op : CmpOp} (ho : OpR X (compareOp op) r) (hs : Op2 κ r f) (ha : PE X a (tVar i)) (hb : PE X b (tB κ W pb mb)) (hm : behindInMarks op b = false) : PE X (.Compare a [op] [b] pos) (tE κ W false (mOpN i f mb)) :=
  pe_imp (pe_cmpR ho ha hb hm) fun _ _ _ h => tOp_ofN hs h
theorem de_cmpS {op : CmpOp} (ho : OpR X (compareOp op) r) (hs : Op2 κ r f) (ha : PE X a (tE κ W pa ma)) (hb : PE X b (tB κ W pb mb)) (hm : behindInMarks op b = false) : PE X (.Compare a [op] [b] pos) (tE κ W false (mOpS f ma mb)) :=
  pe_imp (pe_cmpR ho ha hb hm) fun _ _ _ h => tOp_ofS hs h
theorem tE_bl {p : Bool} {m : M O} {σ : L2.St} {H : Hp} {Q : Bool → Hp → Prop} (h : tT κ W p (mBl m) σ H Q) : tE κ W p m σ H (fun x H1 => ∃ c, x = .bl c ∧ Q c H1) := by
  obtain ⟨A, F, ρ, τ, υ, g, h⟩ := h
  exact ⟨A, F, ρ, τ, υ, g, h.bind.imp fun o ρ' h v A' F' H' s g' => by
    split at h
    · rename_i b
      obtain ⟨rfl, A2, g2, s2⟩ := bl_top g'
      exact ⟨b, rfl, h A2 F' H' ((s.trans s2).imp fun z => by rw [z]; rfl) g2⟩
    · exact h.elim⟩
theorem dT_cmpN {i : Nat} {op : CmpOp} (ho : OpR X (compareOp op) r) (hs : Op2 κ r f) (ha : PE X a (tVar i)) (hb : PE X b (tB κ W pb mb)) (hm : behindInMarks op b = false) : PT X (.Compare a [op] [b] pos) (tT κ W false (mBl (mOpN i f mb))) :=
  pt_imp (pt_cmpR ho ha hb hm) fun _ _ _ h => tOp_ofN hs (tE_bl h)
theorem dT_cmpS {op : CmpOp} (ho : OpR X (compareOp op) r) (hs : Op2 κ r f) (ha : PE X a (tE κ W pa ma)) (hb : PE X b (tB κ W pb mb)) (hm : behindInMarks op b = false) : PT X (.Compare a [op] [b] pos) (tT κ W false (mBl (mOpS f ma mb))) :=
  pt_imp (pt_cmpR ho ha hb hm) fun _ _ _ h => tOp_ofS hs (tE_bl h)
end

/-! ### in -/
def flD : D → Option V
  | .non => some .non
  | .bl b => some (.bl b)
  | .int i => some (.int i)
  | .str x => some (.str x)
  | _ => none
def flsD : List D → Option (List V)
  | [] => some []
  | d :: ds => match flD d, flsD ds with
    | some v, some vs => some (v :: vs)
    | _, _ => none
theorem fl_v {κ : Kx} {F : Hp} {v u : V} {d : D} (r : Rep κ F v d) (e : flD d = some u) : v = u ∧ flatV v = true := by
  cases r <;> simp only [flD] at e <;> first | (cases e; exact ⟨rfl, rfl⟩) | cases e
theorem fls_v {κ : Kx} {F : Hp} : ∀ {vs us : List V} {ds : List D}, Reps κ F vs ds → flsD ds = some us → vs = us ∧ vs.all flatV = true
  | _, _, _, .nil, e => by simp only [flsD] at e; cases e; exact ⟨rfl, rfl⟩
  | _, _, _, .cons h r, e => by
    simp only [flsD] at e
    split at e
    · rename_i v vs e1 e2
      cases e
      obtain ⟨h1, h2⟩ := fl_v h e1
      obtain ⟨h3, h4⟩ := fls_v r e2
      exact ⟨by rw [h1, h3], by simp [h2, h4]⟩
    · cases e
def inB (x y : D) : Option Bool := match flD x, y with
  | some v, .tup ds => match flsD ds with
    | some vs => some (inV v vs)
    | none => none
  | some v, .lst ds => match flsD ds with
    | some vs => some (inV v vs)
    | none => none
  | _, _ => none
def inO (neg : Bool) (x y : D) : Option O := match inB x y with
  | some b => some (.sh (.bl (if neg then !b else b)))
  | none => none
theorem in_sem {κ : Kx} {neg : Bool} : Op2 κ (rIn κ.K neg) (inO neg) := by
  intro A F H ρ σ τ υ g o1 o2 v1 v2 B1 B2 w1 w2 o e Q q
  unfold inO at e
  split at e
  · rename_i b eb
    cases e
    unfold inB at eb
    split at eb
    · rename_i v ds ev ed
      split at eb
      · rename_i vs es
        cases eb
        obtain ⟨a, ws, rfl, h1, h2⟩ := w2.tup_v ed
        obtain ⟨h3, h4⟩ := fls_v h2 es
        obtain ⟨h5, h6⟩ := fl_v (w1.repH g.fh) ev
        subst h3 h5
        refine ⟨a, ws, rfl, .inr (SqT.of (g.fh _ _ h1)), h6, h4, ?_⟩
        have := q _ _ (fin_sh g (.bl (if neg then !inV v1 ws else inV v1 ws)))
        cases neg <;> exact this
      · cases eb
    · rename_i v ds ev ed
      split at eb
      · rename_i vs es
        cases eb
        obtain ⟨a, ws, rfl, h1, h2⟩ := w2.lst_v ed g.fh
        obtain ⟨h3, h4⟩ := fls_v h2 es
        obtain ⟨h5, h6⟩ := fl_v (w1.repH g.fh) ev
        subst h3 h5
        refine ⟨a, ws, rfl, .inl (SqL.of h1), h6, h4, ?_⟩
        have := q _ _ (fin_sh g (.bl (if neg then !inV v1 ws else inV v1 ws)))
        cases neg <;> exact this
      · cases eb
    · cases eb
  · cases e
theorem op_inA {X : Cx} : OpR X (compareOp .In) (rIn X.K false) := op_in_seq
theorem op_ninA {X : Cx} : OpR X (compareOp .NotIn) (rIn X.K true) := op_notIn_seq

/-! ### isinstance -/
def tyN : D → Option String
  | .non => some "NoneType"
  | .bl _ => some "bool"
  | .int _ => some "int"
  | .str _ => some "str"
  | .tup _ => some "tuple"
  | .lst _ => some "list"
  | .dk _ _ => some "dict"
  | .dt _ _ => some "dict"
  | _ => none
theorem ty_of {κ : Kx} {H : Hp} {v : V} {d : D} {t : String} (r : Rep κ H v d) (e : tyN d = some t) : TyX κ.K H v (.type t) := by
  cases r with
  | non => cases e; exact .base .non
  | bl b => cases e; exact .base (.bl b)
  | int i => cases e; exact .base (.int i)
  | str x => cases e; exact .base (.str x)
  | tup h r => cases e; exact .base (.tup h)
  | lst h r => cases e; exact .base (.lst h)
  | fz h r => cases e
  | dk h r => cases e; exact .base (.dK h)
  | dt h r => cases e; exact .base (.dT h)
  | ob _ _ _ => cases e
def isiT (t : String) : List String → Option Bool
  | [] => some false
  | T :: Ts => match kitB t T with
    | some true => some true
    | some false => isiT t Ts
    | none => none
def isiD (Ts : List String) (d : D) : Option Bool := match tyN d with
  | some t => isiT t Ts
  | none => none
def mIsi (Ts : List String) (m : M (Option Nat × O)) : M D := mBind m fun x => match isiD Ts x.2.toD with
  | some b => mPure (.bl b)
  | none => fun _ => .bad
theorem isiT_any {K : PySem.W.Frag} {t : String} : ∀ {Ts : List String} {b : Bool}, isiT t Ts = some b → PySem.W.kitAny K (.type t) (Ts.map Value.type) = some b
  | [], b, e => by cases e; rfl
  | T :: Ts, b, e => by
    unfold isiT at e
    cases q : kitB t T with
    | none => rw [q] at e; cases e
    | some c =>
      rw [q] at e
      cases c with
      | true => cases e; exact kitAny_cons (kit_ty q) nofun fun _ => rfl
      | false => exact kitAny_cons (kit_ty q) (fun _ => isiT_any e) nofun
section
variable {X : Cx} {W : WX'} {e : Expr} {p : Bool} {m : M (Option Nat × O)}
theorem dV_isi1 {T : String} {c st : Expr} (h : ∀ t, PA X [e, c] t → PE X st (tCB (rIsi X.K) t)) (he : PE X e (tB (kx X) W p m)) (hc : PE X c (tC (.ty T)))
    (hs1 : starEach (e :: [c]) X.env = (false, eval e X.env) :: starEach [c] X.env := by rfl) (hs2 : starEach (c :: []) X.env = (false, eval c X.env) :: starEach [] X.env := by rfl) : PE X st (tV (kx X) W p (mIsi [T] m)) :=
  pe_imp (h _ (pa_cons he (pa_cons hc pa_nil hs2) hs1)) fun σ H Q ⟨A, F, ρ, τ, υ, g, h⟩ => ⟨A, F, ρ, τ, υ, g, h.bind.imp fun x ρ1 h v B A1 F1 H1 s1 g1 w _ => by
    cases ei : isiD [T] x.2.toD with
    | none => rw [ei] at h; exact h.elim
    | some b =>
      rw [ei] at h
      unfold isiD at ei
      split at ei
      · rename_i t et
        refine ⟨v, .ty T, .type t, .type T, b, rfl, .ty T, ty_of (w.repH g1.fh) et, ?_, h _ A1 F1 H1 s1 g1 (.bl _)⟩
        unfold isiT at ei
        cases q : kitB t T with
        | none => rw [q] at ei; cases ei
        | some c => rw [q] at ei; cases c <;> cases ei <;> exact kit_ty q
      · cases ei⟩
theorem dV_isi2 {T T2 : String} {c d st : Expr} {kk : Nat} {tpos : Pos} (h : ∀ t, PA X [e, .Tuple [c, d] kk tpos] t → PE X st (tCB (rIsiT X.K) t)) (he : PE X e (tB (kx X) W p m)) (hc : PE X c (tC (.ty T))) (hd : PE X d (tC (.ty T2)))
    (hs1 : starEach (e :: [.Tuple [c, d] kk tpos]) X.env = (false, eval e X.env) :: starEach [.Tuple [c, d] kk tpos] X.env := by rfl) (hs2 : starEach (.Tuple [c, d] kk tpos :: []) X.env = (false, eval (.Tuple [c, d] kk tpos) X.env) :: starEach [] X.env := by rfl)
    (hs3 : starEach (c :: [d]) X.env = (false, eval c X.env) :: starEach [d] X.env := by rfl) (hs4 : starEach (d :: []) X.env = (false, eval d X.env) :: starEach [] X.env := by rfl) : PE X st (tV (kx X) W p (mIsi [T, T2] m)) :=
  pe_imp (h _ (pa_cons he (pa_cons (pe_tup (pa_cons hc (pa_cons hd pa_nil hs4) hs3)) pa_nil hs2) hs1)) fun σ H Q ⟨A, F, ρ, τ, υ, g, h⟩ => ⟨A, F, ρ, τ, υ, g, h.bind.imp fun x ρ1 h v B A1 F1 H1 s1 g1 w _ => by
    cases ei : isiD [T, T2] x.2.toD with
    | none => rw [ei] at h; exact h.elim
    | some b =>
      rw [ei] at h
      unfold isiD at ei
      split at ei
      · rename_i t et
        refine ⟨by show 2 ≤ sizeLine; decide, fun a ha => ?_⟩
        obtain ⟨g2, s2⟩ := sJunk (pp := p) g1 (.tup [.ty T, .ty T2]) ha
        exact ⟨v, a, _, .type t, [.type T, .type T2], b, rfl, upd_same, .cons (.ty T) (.cons (.ty T2) .nil), ty_of ((w.repH g1.fh).mono (same_new ha)) et, isiT_any (Ts := [T, T2]) ei, h _ A1 F1 _ ((s1.trans s2).imp fun z => by rw [z]; rfl) g2 (.bl _)⟩
      · cases ei⟩
end
end DL

end

section
set_option Elab.async false
set_option linter.all false
set_option maxRecDepth 100000
/-! DL, part L: set(list of ints), sorted(set), sorted(.., key=abs). -/
namespace L2
open PySem PySem.Spec PyProof.Rows
section
variable {P : Program} {w : World} {A : Around} {E : Value → Shared → Prop} {s : Shared}
set_option maxHeartbeats 3200000 in
/-- set(l), l a list of ints -/
theorem dl_set_lst {l : Addr} {items : Array Value} (ns : List Int) {Q : Value → Shared → Prop} (hh : A.handled = none) (hl : s.heap.IsList l items) (hit : IntsAre items.toList ns) (hb : ns.length + 1 < scanBound)
    (h : ∀ (h' : Heap) (tk c : Nat), SetR w h' s.heap.objs.size (fun j => decide (j ∈ ns)) c → c ≤ ns.length → (∀ b o, s.heap.get? b = some o → h'.get? b = some o) → Q (.ref s.heap.objs.size) { s with heap := h', toks := tk }) :
    wpAny (model P w) A (call (.type "set") [.ref l]) Q E s := by
  have hisz : items.size = ns.length := by
    have q := IntsAre.length hit
    rw [Array.length_toList] at q
    exact q
  obtain ⟨c, tl, hmro⟩ := F.called_set.mro
  have hmade := F.called_set.made
  have hsub := F.called_set.sub
  refine wpAny_call (codeAny_of_tree ?_)
  show wpAny _ _ (callAny (.type "set") _) _ _ _
  refine wpAny_pure ⟨Code.quiet_builtin _ (by decide +kernel), codeAny_builtin F.entry_type_call ?_⟩
  rw [Around.under_plain (weight_type_call_type "set" [.ref l] []) rfl]
  have h1 := F.called_set.notType
  have h2 := F.called_set.canCreate
  have hct := F.typeCall_set_1 (.ref l)
  repeat (any_goals (first | assumption | wp_step))
  generalize hP : s.heap.push { cls := .type "set", dict := none, data := .set #[] 0 (.fresh 0 0 (!w.params.followText "set-order")) } = hp1
  have hsz1 : hp1.objs.size = s.heap.objs.size + 1 := by rw [← hP]; exact Heap.size_push ..
  have hS : hp1.get? s.heap.objs.size = some { cls := .type "set", dict := none, data := .set #[] 0 (.fresh 0 0 (!w.params.followText "set-order")) } := by rw [← hP]; exact Heap.get?_push_size _ rfl
  have old : ∀ b o, s.heap.get? b = some o → hp1.get? b = some o := fun b o e => by rw [← hP]; exact Heap.get?_push_of_some _ e
  refine codeAny_mono (code_set_led1 (.ref l) (E := E) (Q₁ := fun obj s₁ => obj = .ref s.heap.objs.size ∧ s₁ = { s with heap := hp1 }) ⟨rfl, by rw [← hP]⟩) fun r s₁ hr => ?_
  cases r with
  | error e => exact hr
  | ok fl =>
    cases fl with
    | ret obj =>
      obtain ⟨rfl, rfl⟩ := hr
      have hT : Shared.TypeIs { s with heap := hp1 } (.ref s.heap.objs.size) "set" := ⟨_, hS, rfl⟩
      have hli := F.called_set.init.lookup
      have hbi := F.called_set.init.bind (.ref s.heap.objs.size)
      repeat (any_goals (first | assumption | wp_step))
      refine codeAny_mono (codeAny_call_builtin (R := wants (fun r s₂ => r = .none ∧ ∃ h' tk c, s₂ = { s with heap := h', toks := tk } ∧ SetR w h' s.heap.objs.size (fun j => decide (j ∈ ns)) c ∧ c ≤ ns.length ∧
          (∀ b o, s.heap.get? b = some o → h'.get? b = some o)) E) F.called_set.init.plain F.entry_set_init (check_set_init_1 hT ?_)) fun r₂ s₂ hr₂ => ?_
      · obtain ⟨⟨ocls, odict, odata, oslots⟩, hol, hcl, nl, hdl⟩ := hl
        simp only at hcl hdl
        subst hcl hdl
        have hol' := old _ _ hol
        have hsls := F.sub_list_set
        have hslf := F.sub_list_frozenset
        have hne : (Value.type "list" == Value.type "dict") = false := by decide
        have hl1 : hp1.IsList l items := ⟨_, hol', rfl, nl, rfl⟩
        unfold Builtin.«set.__init__» noKeywords Builtin.Frozenset.updateFrom
        generalize hPI : pyIter = PI
        wp_walk
        subst hPI
        refine wpAny_pyIter_list hl1 ?_
        refine wpAny_bind (wpAny_runValue ?_)
        have hlS : l < s.heap.objs.size := Heap.lt_size hol
        have hh3 : A.in1.in1.in1.handled = none := by simp [hh]
        have hneI : l ≠ hp1.objs.size := by rw [hsz1]; exact Nat.ne_of_lt (Nat.lt_succ_of_lt hlS)
        have hSf : s.heap.objs.size ∉ [hp1.objs.size, l] := by
          rw [hsz1]; simp only [List.mem_cons, List.mem_singleton, List.not_mem_nil, or_false, not_or]
          exact ⟨Nat.ne_of_lt (Nat.lt_succ_self _), Nat.ne_of_gt hlS⟩
        have hval : ∀ (i : Nat) (v : Value), items[i]? = some v → ∃ k t, ns[i]? = some k ∧ v = .int k t := fun i v hv => by
          have hi : i < ns.length := by rw [← hisz]; exact (Array.getElem?_eq_some_iff.mp hv).1
          obtain ⟨t, e⟩ := PyProof.Rows.IntsAre.int_at hit i v (by rw [Array.getElem?_toList]; exact hv)
          refine ⟨ns[i], t, List.getElem?_eq_getElem hi, ?_⟩
          rw [e, List.getD_eq_getElem?_getD, List.getElem?_eq_getElem hi] <;> rfl
        refine set_update_ints ((Walks.list hh3 _ l hneI items).toS) s.heap.objs.size
          hSf ns hisz hb hval (items.size - 0) 0 _ (by omega) (Nat.zero_le _)
          ⟨⟨_, Heap.get?_push_size _ rfl, rfl, rfl⟩, (hl1.push _)⟩ ⟨0, Nat.le_refl 0, setR_new_at (Heap.get?_push_of_some _ hS)⟩ ?hR
        case hR =>
          intro s' c' hm hc' hS'
          obtain ⟨h', g2, d', tk', os'⟩ := s'
          have eg : g2 = s.gens := hm.gens
          have ed : d' = s.drawn := hm.drawn
          have eo : os' = s.os := hm.os
          subst eg; subst ed; subst eo
          show wpAny _ _ _ _ _ _
          refine wpAny_pure ?_
          show wpAny _ _ (ret Value.none) _ _ _
          rw [hisz] at hc'
          refine wpAny_pure ⟨rfl, h', tk', c', rfl, hS', hc', fun b o e => ?_⟩
          have hb0 : b < s.heap.objs.size := Heap.lt_size e
          exact hm.heap b o (by
            rw [hsz1]
            simp only [List.mem_cons, List.mem_singleton, List.not_mem_nil, or_false, not_or]
            exact ⟨Nat.ne_of_lt hb0, Nat.ne_of_lt (Nat.lt_succ_of_lt hb0)⟩) (Heap.get?_push_of_some _ (old b o e))
      · cases r₂ with
        | error e => exact hr₂
        | ok fl₂ =>
          cases fl₂ with
          | ret r =>
            obtain ⟨rfl, h', tk, c', rfl, hS', hc', hk'⟩ := hr₂
            repeat (any_goals (first | assumption | wp_step))
            exact h _ _ _ hS' hc' hk'
          | _ => exact hr₂.elim
    | _ => exact hr.elim
end
section
variable {X : Cx}
def rSetLI (K : PySem.W.Frag) (w : World) : List V → Hp → VK → Prop := fun xs H Q => ∃ (l : Addr) (ns : List Int), xs = [V.ref l] ∧ SqL K H l (ns.map V.int) ∧ ns.length ≤ 1000 ∧
  ∀ p c, H p = none → c ≤ ns.length → Q (.ref p) (upd H p (SetO w p (fun j => decide (j ∈ ns)) c))
theorem cr_setLI (hc : X.calm = true) : CallR X (.type "set") (rSetLI X.K X.w) := by
  intro pins s σ H xs us Q I r h
  obtain ⟨l, ns, rfl, hl, hk, q⟩ := h
  rw [Vals.ref1 r]
  obtain ⟨its, rv, pl, hz⟩ := I.list hl
  refine dl_set_lst ns (I.ok.hd hc) pl.isList (by simpa using ints_of_vals rv) (Nat.lt_of_le_of_lt (Nat.succ_le_succ hk) (by decide)) fun h' tk c R hc' k => ?_
  have hn : H s.heap.objs.size = none := I.hok.fresh (Nat.le_refl _)
  exact ⟨.ref s.heap.objs.size, upd H s.heap.objs.size (SetO X.w s.heap.objs.size (fun j => decide (j ∈ ns)) c), I.laid (t' := tk) k (Nat.le_refl _) (setO_new R), rfl, q _ c hn hc'⟩
end
end L2

end

section
set_option Elab.async false
set_option linter.all false
set_option maxRecDepth 100000
set_option maxHeartbeats 4000000
/-! DL, part M: sorted(.., key=abs). -/
namespace PyProof.Rows
open PySem
section
variable {prog : Program} {w : World} {A : Around} {E : Value → Shared → Prop} {s : Shared} {a kS : Addr} {vs : List Value} {kz : List Int} {keys : Array Value} {e e1 : Nat} {P : PySem.Fin → Shared → Prop}
theorem ka_tail {st : SortSt} (nk : s.heap.get? kS = some (seqObj "list" keys e)) (na : s.heap.get? a = some (seqObj "list" #[] e1)) (hka : kS ≠ a)
    (hk : IntsAre keys.toList kz) (hlen : kz.length = vs.length) (h64 : vs.length < 64) (hp : (arrOf st).Perm (keys.zip vs.toArray)) (hs : SortedTo (arrOf st) (arrOf st).size) (hfl : failedOf st = none)
    (h : ∀ h' tk out c, (∀ b o, b ≠ kS → b ≠ a → s.heap.get? b = some o → h'.get? b = some o) → h'.get? a = some (seqObj "list" out c) → KskOut false kz vs out.toList → P (.done (.ret .none)) { s with heap := h', toks := tk }) :
    wpAny (model prog w) A (ksk_tail a false e1 (.ref kS) st) P E s := by
  have hsz : keys.size = vs.length := by
    have h1 := hk.length
    rw [Array.length_toList] at h1
    omega
  have hsz2 : (arrOf st).size = vs.length := by rw [hp.size_eq, Array.size_zip, hsz, List.size_toArray, Nat.min_self]
  have hout : ((arrOf st).map (·.2)).size = vs.length := by simp only [Array.size_map]; exact hsz2
  have na1 : (s.heap.update kS (Obj.mapSeq fun _ => (#[] : Array Value))).get? a = some (seqObj "list" #[] e1) := (Heap.get?_update_ne _ _ _ _ hka.symm).trans na
  obtain ⟨c2, hc2⟩ : ∃ c2, ((s.heap.update kS (Obj.mapSeq fun _ => (#[] : Array Value))).update a (Obj.mapSeq fun _ => (arrOf st).map (·.2))).get? a = some (seqObj "list" ((arrOf st).map (·.2)) c2) :=
    ⟨_, get?_update_seq na1 fun _ => (arrOf st).map (·.2)⟩
  unfold ksk_tail
  try dsimp only
  refine wpAny_bind (listUpdate_at nk rfl ?_ (by rw [hsz, sizeLine_eq]; omega) (Nat.zero_le _))
  refine wpAny_bind (wpAny_letGo ?_)
  refine wpAny_bind (seqEpoch_at na1 rfl ?_)
  refine wpAny_bind (listUpdate_at na1 rfl ?_ (Nat.zero_le _) (by simp only [Bool.false_eq_true, if_false]; rw [hout, sizeLine_eq]; omega))
  rw [hfl]
  simp only [bne_self_eq_false, Bool.false_eq_true, if_false]
  refine wpAny_pure (h _ _ _ c2 (fun b o n1 n2 q => ?_) hc2 (ksk_out (b := false) hk hp hs))
  rw [Heap.get?_update_ne _ _ _ _ n2, Heap.get?_update_ne _ _ _ _ n1]
  exact q
theorem ka_end (nk : s.heap.get? kS = some (seqObj "list" keys e)) (na : s.heap.get? a = some (seqObj "list" #[] e1)) (hka : kS ≠ a)
    (hk : IntsAre keys.toList kz) (hlen : kz.length = vs.length) (h64 : vs.length < 64)
    (h : ∀ h' tk out c, (∀ b o, b ≠ kS → b ≠ a → s.heap.get? b = some o → h'.get? b = some o) → h'.get? a = some (seqObj "list" out c) → KskOut false kz vs out.toList → P (.done (.ret .none)) { s with heap := h', toks := tk }) :
    wpAny (model prog w) A (ksk_end a false vs.toArray e1 (.ref kS) keys) P E s := by
  have hsz : keys.size = vs.length := by
    have h1 := hk.length
    rw [Array.length_toList] at h1
    omega
  have hzs : (keys.zip vs.toArray).size = vs.length := by rw [Array.size_zip, hsz, List.size_toArray, Nat.min_self]
  unfold ksk_end
  try dsimp only
  rw [if_neg Bool.false_ne_true]
  by_cases h2 : vs.toArray.size < 2
  · rw [if_pos h2, if_pos h2]
    refine wpAny_bind (wpAny_pure ?_)
    rw [StateT.run_pure]
    refine wpAny_bind (wpAny_pure ?_)
    try dsimp only
    refine ka_tail (st := SortSt.mk' general' (if false = true then (keys.zip vs.toArray).reverse else keys.zip vs.toArray) #[] 7 none) nk na hka hk hlen h64 (Array.Perm.refl _) ?_ rfl h
    intro i j hij hj
    have hj2 : j < (keys.zip vs.toArray).size := hj
    rw [hzs] at hj2
    rw [List.size_toArray] at h2
    have : i = j := by omega
    subst this
    exact Int.le_refl _
  · rw [if_neg h2, if_neg h2]
    rw [List.size_toArray] at h2
    rw [ksk_kind hk (by rw [hsz]; omega)]
    refine wpAny_bind (wpAny_pure ?_)
    refine wpAny_bind (wpAny_mono (wpS_sortRuns (a₀ := keys.zip vs.toArray) (st := SortSt.mk' oneType' (if false = true then (keys.zip vs.toArray).reverse else keys.zip vs.toArray) #[] 7 none)
      (Q := fun _ st' => (arrOf st').Perm (keys.zip vs.toArray) ∧ failedOf st' = none ∧ SortedTo (arrOf st') (keys.zip vs.toArray).size)
      (ksk_intKeys hk) ⟨Array.Perm.refl _, rfl, rfl, rfl⟩ (by rw [hzs]; omega) (by rw [hzs]; exact h64) fun st' a1 a2 a3 => ⟨a1, a2, a3⟩) ?_ fun _ _ e => e)
    rintro ⟨⟨⟩, st'⟩ s' ⟨rfl, hp, hf, hs⟩
    try dsimp only
    exact ka_tail nk na hka hk hlen h64 hp (by rw [hp.size_eq]; exact hs) hf h
theorem ka_rest {f : Value} (nk : s.heap.get? kS = some (seqObj "list" #[] 0)) (na : s.heap.get? a = some (seqObj "list" #[] e1)) (hka : kS ≠ a)
    (hlen : kz.length = vs.length) (h64 : vs.length < 64)
    (turn : ∀ (i : Nat) (v : Value) (k : Int), vs[i]? = some v → kz[i]? = some k → ∀ (h : Heap) (tk : Nat),
      wpAny (model prog w) A (call f [v]) (fun r s' => ∃ t tk', r = .int k t ∧ s' = { s with heap := h, toks := tk' }) (fun _ _ => False) { s with heap := h, toks := tk })
    (h : ∀ h' tk out c, (∀ b o, b ≠ kS → b ≠ a → s.heap.get? b = some o → h'.get? b = some o) → h'.get? a = some (seqObj "list" out c) → KskOut false kz vs out.toList → P (.done (.ret .none)) { s with heap := h', toks := tk }) :
    wpAny (model prog w) A (ksk_rest a f false vs.toArray e1 (.ref kS)) P E s := by
  unfold ksk_rest
  refine wpAny_bind (wpAny_rule ?_)
  first
    | rw [List.forIn_toArray]
    | (rw [← Array.forIn_toList]; simp only [List.toList_toArray])
    | rw [← Array.forIn_toList]
  refine wpAny_bind (ksk_fold (fun i s' => ∃ h' tk kA e, s' = { s with heap := h', toks := tk } ∧ (∀ b o, b ≠ kS → s.heap.get? b = some o → h'.get? b = some o) ∧ h'.get? kS = some (seqObj "list" kA e) ∧ IntsAre kA.toList (kz.take i)) vs 0 s
    ⟨s.heap, s.toks, #[], 0, rfl, fun _ _ _ q => q, nk, by simpa using IntsAre.nil⟩ ?step ?done)
  case step =>
    rintro j x s' hx ⟨h', tk, kA, e, rfl, kp, nk', hk⟩
    simp only [Nat.zero_add] at hk ⊢
    have hj : j < vs.length := (List.getElem?_eq_some_iff.mp hx).1
    obtain ⟨k, hkj⟩ : ∃ k, kz[j]? = some k := ⟨_, List.getElem?_eq_getElem (by omega)⟩
    have hz : kA.size ≤ vs.length := by
      have h1 := hk.length
      rw [Array.length_toList, List.length_take] at h1
      omega
    refine wpAny_bind (wpAny_attempt (wpAny_mono (turn j x k hx hkj h' tk) (fun v s'' he => ?_) fun _ _ hF => hF.elim))
    obtain ⟨t2, tk2, rfl, rfl⟩ := he
    try dsimp only
    obtain ⟨c2, hc2⟩ : ∃ c2, (h'.update kS (Obj.mapSeq (·.push (.int k t2)))).get? kS = some (seqObj "list" (kA.push (.int k t2)) c2) := ⟨_, get?_update_seq nk' (·.push (.int k t2))⟩
    have ek : kz.take (j + 1) = kz.take j ++ [k] := by rw [List.take_add_one, hkj]; simp
    have ea : (kA.push (Value.int k t2)).toList = kA.toList ++ [Value.int k t2] := by simp
    refine wpAny_bind (listUpdate_at nk' rfl ?_ (by rw [sizeLine_eq]; omega) (Nat.le_trans (Nat.le_of_eq (Array.size_push ..)) (by rw [sizeLine_eq]; omega)))
    refine wpAny_pure ⟨rfl, _, _, kA.push (.int k t2), c2, rfl, fun b o n q => ?_, hc2, by rw [ea, ek]; exact ksk_snoc hk⟩
    rw [Heap.get?_update_ne _ _ _ _ n]
    exact kp b o n q
  case done =>
    rintro s' ⟨h', tk, kA, e, rfl, kp, nk', hk⟩
    have hk' : IntsAre kA.toList kz := by
      have e3 : kz.take (0 + vs.length) = kz := List.take_of_length_le (by omega)
      rw [e3] at hk
      exact hk
    try dsimp only
    refine wpAny_bind (listItems_at nk' rfl ?_)
    exact ka_end nk' (kp _ _ hka.symm na) hka hk' hlen h64 fun h3 tk3 out c k3 n3 o3 => h h3 tk3 out c (fun b o n1 n2 q => k3 b o n1 n2 (kp b o n1 q)) n3 o3
theorem ka_sort {f : Value} {n : Nat} (ho : s.heap.get? a = some (seqObj "list" vs.toArray n)) (hlen : kz.length = vs.length) (h64 : vs.length < 64)
    (turn : ∀ (i : Nat) (v : Value) (k : Int), vs[i]? = some v → kz[i]? = some k → ∀ (h : Heap) (tk : Nat),
      wpAny (model prog w) A (call f [v]) (fun r s' => ∃ t tk', r = .int k t ∧ s' = { s with heap := h, toks := tk' }) (fun _ _ => False) { s with heap := h, toks := tk })
    (h : ∀ h' tk out c, (∀ b o, b ≠ a → s.heap.get? b = some o → h'.get? b = some o) → h'.get? a = some (seqObj "list" out c) → KskOut false kz vs out.toList → P (.done (.ret .none)) { s with heap := h', toks := tk }) :
    wpAny (model prog w) A (ksk_tree a f false) P E s := by
  have ha : a < s.heap.objs.size := Heap.lt_size ho
  obtain ⟨e1, ho1⟩ : ∃ e1, (s.heap.update a (Obj.mapSeq fun _ => (#[] : Array Value))).get? a = some (seqObj "list" #[] e1) := ⟨_, get?_update_seq ho fun _ => #[]⟩
  have hkS : ((s.heap.update a (Obj.mapSeq fun _ => (#[] : Array Value))).push (seqObj "tuple" vs.toArray 0)).objs.size = s.heap.objs.size + 1 := by rw [size_push', Heap.size_update]
  unfold ksk_tree
  refine wpAny_bind (listItems_at ho rfl ?_)
  refine wpAny_bind (listUpdate_at ho rfl ?_ (by rw [List.size_toArray, sizeLine_eq]; omega) (Nat.zero_le _))
  refine wpAny_bind (seqEpoch_at ho1 rfl ?_)
  refine wpAny_bind (wpAny_newTuple ?_ (by show vs.length ≤ _; rw [sizeLine_eq]; omega))
  refine wpAny_bind (wpAny_newList ?_ (Nat.zero_le _))
  refine wpAny_holding ?_
  refine ka_rest (s := { s with heap := ((s.heap.update a (Obj.mapSeq fun _ => (#[] : Array Value))).push (seqObj "tuple" vs.toArray 0)).push (seqObj "list" #[] 0) }) (kS := ((s.heap.update a (Obj.mapSeq fun _ => (#[] : Array Value))).push (seqObj "tuple" vs.toArray 0)).objs.size)
    (Heap.get?_push_size _ rfl) (Heap.get?_push_of_some _ (Heap.get?_push_of_some _ ho1)) (by rw [hkS]; exact Nat.ne_of_gt (Nat.lt_succ_of_lt ha)) hlen h64 turn fun h' tk out c kp n o => h h' tk out c (fun b ob nb q => ?_) n o
  refine kp b ob ?_ nb (Heap.get?_push_of_some _ (Heap.get?_push_of_some _ ((Heap.get?_update_ne _ _ _ _ nb).trans q)))
  rw [hkS]
  exact Nat.ne_of_lt (Nat.lt_succ_of_lt (Heap.lt_size q))
end
section
variable {prog : Program} {w : World} {A : Around} {E : Value → Shared → Prop} {s : Shared} {l : Addr} {vs : List Value} {Q : Value → Shared → Prop}
/-- sorted(l, key=abs) of ints -/
theorem ka_sorted {ns : List Int} (hl : s.heap.IsList l vs.toArray) (hi : IntsAre vs ns) (h64 : vs.length < 64)
    (h : ∀ h' tk out c, (∀ b o, s.heap.get? b = some o → h'.get? b = some o) → h'.get? (s.heap.objs.size + 1) = some (seqObj "list" out c) → KskOut false (ns.map fun i => if i < 0 then -i else i) vs out.toList → Q (.ref (s.heap.objs.size + 1)) { s with heap := h', toks := tk }) :
    wpAny (model prog w) A (call (.builtin "sorted") [.ref l] [(Str.ofString "key", .builtin "abs")]) Q E s := by
  refine call_function_entry_kw kind_sorted plain_sorted entry_sorted (ksk_s1 _ _) ?_
  unfold Builtin.«sorted»
  refine wpAny_bind (m := checkCount "sorted" 1 1 _) (wpAny_pure ?_)
  refine wpAny_bind (collect_list hl ?_ (by rw [sizeLine_eq]; omega))
  refine wpAny_bind (wpAny_newList ?_ (by rw [sizeLine_eq]; omega))
  have hsz : ((s.heap.push (seqObj "list" #[] 0)).update s.heap.objs.size (Obj.mapSeq (· ++ vs.toArray))).objs.size = s.heap.objs.size + 1 := by
    rw [Heap.size_update, size_push']
  have hoL : (((s.heap.push (seqObj "list" #[] 0)).update s.heap.objs.size (Obj.mapSeq (· ++ vs.toArray))).push (seqObj "list" vs.toArray 0)).get? (s.heap.objs.size + 1) = some (seqObj "list" vs.toArray 0) := by
    rw [← hsz]; exact Heap.get?_push_size _ rfl
  have keep : ∀ b o, s.heap.get? b = some o → b ≠ s.heap.objs.size + 1 ∧ (((s.heap.push (seqObj "list" #[] 0)).update s.heap.objs.size (Obj.mapSeq (· ++ vs.toArray))).push (seqObj "list" vs.toArray 0)).get? b = some o := fun b o q => by
    have hlt : b < s.heap.objs.size := Heap.lt_size q
    refine ⟨Nat.ne_of_lt (Nat.lt_succ_of_lt hlt), Heap.get?_push_of_some _ ?_⟩
    rw [Heap.get?_update_ne _ _ _ _ (Nat.ne_of_lt hlt)]
    exact Heap.get?_push_of_some _ q
  show wpAny _ _ _ _ _ { s with heap := ((s.heap.push (seqObj "list" #[] 0)).update s.heap.objs.size (Obj.mapSeq (· ++ vs.toArray))).push (seqObj "list" vs.toArray 0) }
  rw [hsz]
  refine wpAny_bind (wpAny_holding (wpAny_call_entry_kw slot_list_sort ⟨_, hoL, rfl⟩ entry_list_sort ?_ (ksk_l1 _ _)))
  show wpAny (model prog w) A.in1.in1 (Builtin.«list.sort» ⟨[.ref (s.heap.objs.size + 1)], [(Str.ofString "key", .builtin "abs")]⟩) _ _ _
  rw [ksk_t4]
  refine ka_sort (s := { s with heap := ((s.heap.push (seqObj "list" #[] 0)).update s.heap.objs.size (Obj.mapSeq (· ++ vs.toArray))).push (seqObj "list" vs.toArray 0) }) (kz := ns.map fun i => if i < 0 then -i else i) hoL (by rw [List.length_map]; exact hi.length.symm) h64 (fun i v k hv hk hh tk => ?_) fun h' tk out c kp hn ho => ?_
  · rw [List.getElem?_map] at hk
    cases hz : ns[i]? with
    | none => rw [hz] at hk; cases hk
    | some z =>
      rw [hz] at hk
      cases hk
      obtain ⟨t, e⟩ := hi.get i z hz
      rw [hv] at e
      cases e
      exact call_abs_int fun u tk' => ⟨u, tk', rfl, rfl⟩
  · refine ⟨_, rfl, wpAny_pure ⟨_, rfl, h h' tk out c (fun b o q => kp b o (keep b o q).1 (keep b o q).2) hn ho⟩⟩
end
end PyProof.Rows
namespace L2
open PySem PySem.Spec PyProof.Rows
def absZ (i : Int) : Int := if i < 0 then -i else i
theorem ka_outs : ∀ {ns : List Int} {vs : List Value} {ps : List (Int × Value)}, IntsAre vs ns → (∀ p ∈ ps, p ∈ (ns.map absZ).zip vs) → ∃ ns', IntsAre (ps.map Prod.snd) ns' ∧ ns'.map absZ = ps.map Prod.fst
  | ns, vs, [], _, _ => ⟨[], .nil, rfl⟩
  | ns, vs, (k, v) :: ps, hi, h => by
    obtain ⟨ns', h1, h2⟩ := ka_outs (ps := ps) hi fun p hp => h p (List.mem_cons_of_mem _ hp)
    have hm := h (k, v) List.mem_cons_self
    obtain ⟨j, hj⟩ := List.mem_iff_getElem?.mp hm
    rw [List.getElem?_zip_eq_some] at hj
    obtain ⟨hj1, hj2⟩ := hj
    rw [List.getElem?_map] at hj1
    cases hz : ns[j]? with
    | none => rw [hz] at hj1; cases hj1
    | some z =>
      rw [hz] at hj1
      cases hj1
      obtain ⟨t, e⟩ := hi.get j z hz
      rw [hj2] at e
      cases e
      exact ⟨z :: ns', .cons z t h1, by simp [h2]; rfl⟩
theorem ka_out {ns : List Int} {vs out : List Value} (hi : IntsAre vs ns) (h : KskOut false (ns.map absZ) vs out) : ∃ ns', IntsAre out ns' ∧ ns'.Perm ns ∧ ns'.Pairwise (fun i j => absZ i ≤ absZ j) := by
  obtain ⟨ps, h1, rfl, h3⟩ := h
  obtain ⟨ns', h4, h5⟩ := ka_outs (ps := ps) hi fun p hp => h1.mem_iff.mp hp
  refine ⟨ns', h4, ?_, ?_⟩
  · have e1 := h4.nums
    have e2 := hi.nums
    rw [← e1, ← e2]
    have hz : ((ns.map absZ).zip vs).map Prod.snd = vs := List.map_snd_zip (by rw [List.length_map, hi.length]; exact Nat.le_refl _)
    have := h1.map Prod.snd
    rw [hz] at this
    exact this.map _
  · have h6 : (ps.map Prod.fst).Pairwise (· ≤ ·) := by
      rw [List.pairwise_map]
      exact h3.imp fun {a b} h => by simpa using h
    rw [← h5, List.pairwise_map] at h6
    exact h6
section
variable {X : Cx} {e : Expr} {t : TA} {p pa pos kpos : Pos}
theorem pe_sortAbs (hg : Gl X "sorted") (hm : X.mg "sorted" = none) (hga : Gl X "abs") (hma : X.mg "abs" = none) (ha : PA X [e] t)
    (he : backTo pos (starEach (e :: []) X.env) = (false, eval e X.env) :: backTo pos (starEach [] X.env) := by rfl) (hpl : (backTo pos (starEach (e :: []) X.env)).any (·.1) = false := by rfl) :
    PE X (.Call (.Name "sorted" p) [e] [⟨some (Str.ofString "key"), .Name "abs" pa, kpos⟩] pos) (fun σ H Q => t σ H fun vs H1 => ∃ (a : Addr) (ns : List Int), vs = [V.ref a] ∧ SqL X.K H1 a (ns.map V.int) ∧ ns.length < 64 ∧
      ∀ (ns' : List Int) (p : Addr), ns'.Perm ns → ns'.Pairwise (fun i j => absZ i ≤ absZ j) → H1 p = none → Q (.ref p) (upd H1 p (.lst (ns'.map V.int)))) := by
  refine ⟨fun pins s σ H Q I h => ?_⟩
  refine wpAny_Call_Name_kw (ld_blt I hg hm PyProof.Rows.boot_sorted ?_)
  refine PyProof.Rows.callWith_kw (thn (ha.run pos pins s σ H _ I h) fun us s1 ⟨vs, H1, I1, r1, q1⟩ => ?_) he hpl
  show wpAny _ _ (evalAll ((do let v ← eval (.Name "abs" pa) X.env; standAt pos; pure v) :: [])) _ _ s1
  refine wpAny_evalAll_cons (wpAny_bind (ld_blt I1 hga hma PyProof.Rows.boot_abs (wpAny_bind (wpAny_standAt (wpAny_pure (wpAny_evalAll_nil ?_))))))
  obtain ⟨a, ns, rfl, hs, hn, q⟩ := q1
  obtain rfl := Vals.ref1 r1
  obtain ⟨its, rv, hl, hz⟩ := I1.list hs
  have hi := rv.ints
  show wpAny (model X.prog X.w) X.A (call (.builtin "sorted") [.ref a] [(Str.ofString "key", .builtin "abs")]) _ _ s1
  refine ka_sorted hl.isList hi (by rw [hi.length]; exact hn) fun h' tk out c kp no ko => ?_
  obtain ⟨ns', k1, k2, k3⟩ := ka_out hi ko
  have hlen : (ns'.map V.int).length ≤ sizeLine := by
    rw [List.length_map, k2.length_eq]
    rw [List.length_map] at hz
    exact hz
  exact ⟨.ref _, upd H1 (s1.heap.objs.size + 1) (.lst (ns'.map V.int)), I1.laid (t' := tk) kp (Nat.le_succ _) ⟨hlen, out.toList, c, vals_of_ints k1, by rw [Array.toArray_toList]; exact no⟩, rfl, q _ _ k2 k3 (I1.hok.fresh (Nat.le_succ _))⟩
end
end L2

end

section
set_option Elab.async false
set_option linter.all false
set_option maxRecDepth 100000
/-! DL, part N: sorted rows of ints. -/
namespace DL
open PySem L2 RZ

/-! ### the plain functions -/
def insI (k : Int) : List Int → List Int
  | [] => [k]
  | x :: xs => if k ≤ x then k :: x :: xs else x :: insI k xs
def sortI : List Int → List Int
  | [] => []
  | k :: ks => insI k (sortI ks)
def insU (k : Int) : List Int → List Int
  | [] => [k]
  | x :: xs => if k < x then k :: x :: xs else if k = x then x :: xs else x :: insU k xs
/-- sorted, each once -/
def sortU : List Int → List Int
  | [] => []
  | k :: ks => insU k (sortU ks)
def insA (k : Int) : List Int → List Int
  | [] => [k]
  | x :: xs => if absZ k ≤ absZ x then k :: x :: xs else x :: insA k xs
def sortA : List Int → List Int
  | [] => []
  | k :: ks => insA k (sortA ks)
theorem insI_perm (k : Int) : ∀ xs, (insI k xs).Perm (k :: xs)
  | [] => .refl _
  | x :: xs => by
    unfold insI
    split
    · exact .refl _
    · exact ((insI_perm k xs).cons x).trans (.swap k x xs)
theorem sortI_perm : ∀ xs, (sortI xs).Perm xs
  | [] => .refl _
  | k :: ks => (insI_perm k _).trans ((sortI_perm ks).cons k)
theorem insI_pw (k : Int) : ∀ {xs}, xs.Pairwise (· ≤ ·) → (insI k xs).Pairwise (· ≤ ·)
  | [], _ => by simp [insI]
  | x :: xs, h => by
    unfold insI
    rw [List.pairwise_cons] at h
    split
    · rename_i hk
      rw [List.pairwise_cons, List.pairwise_cons]
      refine ⟨fun y hy => ?_, h.1, h.2⟩
      rcases List.mem_cons.mp hy with rfl | hy
      · exact hk
      · exact Int.le_trans hk (h.1 y hy)
    · rw [List.pairwise_cons]
      refine ⟨fun y hy => ?_, insI_pw k h.2⟩
      rcases List.mem_cons.mp ((insI_perm k xs).mem_iff.mp hy) with rfl | hy
      · omega
      · exact h.1 y hy
theorem sortI_pw : ∀ xs, (sortI xs).Pairwise (· ≤ ·)
  | [] => .nil
  | k :: ks => insI_pw k (sortI_pw ks)
theorem insA_perm (k : Int) : ∀ xs, (insA k xs).Perm (k :: xs)
  | [] => .refl _
  | x :: xs => by
    unfold insA
    split
    · exact .refl _
    · exact ((insA_perm k xs).cons x).trans (.swap k x xs)
theorem sortA_perm : ∀ xs, (sortA xs).Perm xs
  | [] => .refl _
  | k :: ks => (insA_perm k _).trans ((sortA_perm ks).cons k)
theorem insA_pw (k : Int) : ∀ {xs}, xs.Pairwise (fun i j => absZ i ≤ absZ j) → (insA k xs).Pairwise (fun i j => absZ i ≤ absZ j)
  | [], _ => by simp [insA]
  | x :: xs, h => by
    unfold insA
    rw [List.pairwise_cons] at h
    split
    · rename_i hk
      rw [List.pairwise_cons, List.pairwise_cons]
      refine ⟨fun y hy => ?_, h.1, h.2⟩
      rcases List.mem_cons.mp hy with rfl | hy
      · exact hk
      · exact Int.le_trans hk (h.1 y hy)
    · rw [List.pairwise_cons]
      refine ⟨fun y hy => ?_, insA_pw k h.2⟩
      rcases List.mem_cons.mp ((insA_perm k xs).mem_iff.mp hy) with rfl | hy
      · omega
      · exact h.1 y hy
theorem sortA_pw : ∀ xs, (sortA xs).Pairwise (fun i j => absZ i ≤ absZ j)
  | [] => .nil
  | k :: ks => insA_pw k (sortA_pw ks)
theorem mem_insU (k j : Int) : ∀ {xs}, j ∈ insU k xs ↔ j = k ∨ j ∈ xs
  | [] => by simp [insU]
  | x :: xs => by
    unfold insU
    split
    · simp
    · split
      · rename_i e; subst e; simp
      · simp only [List.mem_cons, mem_insU k j (xs := xs)]
        constructor
        · rintro (h | h | h)
          · exact .inr (.inl h)
          · exact .inl h
          · exact .inr (.inr h)
        · rintro (h | h | h)
          · exact .inr (.inl h)
          · exact .inl h
          · exact .inr (.inr h)
theorem mem_sortU (j : Int) : ∀ {xs}, j ∈ sortU xs ↔ j ∈ xs
  | [] => by simp [sortU]
  | k :: ks => by simp only [sortU, mem_insU, mem_sortU j (xs := ks), List.mem_cons]
theorem insU_pw (k : Int) : ∀ {xs}, xs.Pairwise (· < ·) → (insU k xs).Pairwise (· < ·)
  | [], _ => by simp [insU]
  | x :: xs, h => by
    unfold insU
    have h' := h
    rw [List.pairwise_cons] at h
    split
    · rename_i hk
      rw [List.pairwise_cons]
      refine ⟨fun y hy => ?_, h'⟩
      rcases List.mem_cons.mp hy with rfl | hy
      · exact hk
      · exact Int.lt_trans hk (h.1 y hy)
    · split
      · exact h'
      · rw [List.pairwise_cons]
        refine ⟨fun y hy => ?_, insU_pw k h.2⟩
        rcases (mem_insU k y).mp hy with rfl | hy
        · omega
        · exact h.1 y hy
theorem sortU_pw : ∀ xs, (sortU xs).Pairwise (· < ·)
  | [] => .nil
  | k :: ks => insU_pw k (sortU_pw ks)
/-- a strictly sorted row is told by its members -/
theorem strict_eq : ∀ {xs ys : List Int}, xs.Pairwise (· < ·) → ys.Pairwise (· < ·) → (∀ k, k ∈ xs ↔ k ∈ ys) → xs = ys
  | [], [], _, _, _ => rfl
  | [], y :: ys, _, _, h => by have := (h y).mpr (by simp); simp at this
  | x :: xs, [], _, _, h => by have := (h x).mp (by simp); simp at this
  | x :: xs, y :: ys, hx, hy, h => by
    rw [List.pairwise_cons] at hx hy
    have e : x = y := by
      have h1 := (h x).mp (by simp)
      have h2 := (h y).mpr (by simp)
      rcases List.mem_cons.mp h1 with h1 | h1
      · exact h1
      · rcases List.mem_cons.mp h2 with h2 | h2
        · exact h2.symm
        · have := hx.1 y h2
          have := hy.1 x h1
          omega
    subst e
    congr 1
    refine strict_eq hx.2 hy.2 fun k => ⟨fun q => ?_, fun q => ?_⟩
    · rcases List.mem_cons.mp ((h k).mp (List.mem_cons_of_mem _ q)) with e | e
      · subst e; have := hx.1 k q; omega
      · exact e
    · rcases List.mem_cons.mp ((h k).mpr (List.mem_cons_of_mem _ q)) with e | e
      · subst e; have := hy.1 k q; omega
      · exact e
/-- a row sorted by an injective key is told by its members -/
theorem key_eq (f : Int → Int) : ∀ {xs ys : List Int}, xs.Perm ys → (xs.map f).Nodup → xs.Pairwise (fun i j => f i ≤ f j) → ys.Pairwise (fun i j => f i ≤ f j) → xs = ys
  | [], [], _, _, _, _ => rfl
  | [], y :: ys, p, _, _, _ => by have := p.length_eq; simp at this
  | x :: xs, [], p, _, _, _ => by have := p.length_eq; simp at this
  | x :: xs, y :: ys, p, n, hx, hy => by
    rw [List.pairwise_cons] at hx hy
    have e : x = y := by
      rcases List.mem_cons.mp (p.mem_iff.mp (List.mem_cons_self (a := x) (l := xs))) with h1 | h1
      · exact h1
      · rcases List.mem_cons.mp (p.mem_iff.mpr (List.mem_cons_self (a := y) (l := ys))) with h2 | h2
        · exact h2.symm
        · have a1 := hx.1 y h2
          have a2 := hy.1 x h1
          have e : f y = f x := by omega
          simp only [List.map_cons, List.nodup_cons] at n
          exact absurd (by rw [← e]; exact List.mem_map_of_mem h2) n.1
    subst e
    congr 1
    simp only [List.map_cons, List.nodup_cons] at n
    exact key_eq f ((List.perm_cons x).mp p) n.2 hx.2 hy.2
theorem le_eq : ∀ {xs ys : List Int}, xs.Perm ys → xs.Pairwise (· ≤ ·) → ys.Pairwise (· ≤ ·) → xs = ys
  | [], [], _, _, _ => rfl
  | [], y :: ys, p, _, _ => by have := p.length_eq; simp at this
  | x :: xs, [], p, _, _ => by have := p.length_eq; simp at this
  | x :: xs, y :: ys, p, hx, hy => by
    rw [List.pairwise_cons] at hx hy
    have e : x = y := by
      rcases List.mem_cons.mp (p.mem_iff.mp (List.mem_cons_self (a := x) (l := xs))) with h1 | h1
      · exact h1
      · rcases List.mem_cons.mp (p.mem_iff.mpr (List.mem_cons_self (a := y) (l := ys))) with h2 | h2
        · exact h2.symm
        · have a1 := hx.1 y h2
          have a2 := hy.1 x h1
          omega
    subst e
    congr 1
    exact le_eq ((List.perm_cons x).mp p) hx.2 hy.2

/-! ### as operations -/
def intsL (ns : List Int) : O := .lst (ns.map D.int)
theorem reps_ints {κ : Kx} {F : Hp} : ∀ (ns : List Int), Reps κ F (ns.map V.int) (ns.map D.int)
  | [] => .nil
  | n :: ns => .cons (.int n) (reps_ints ns)
def sortO : D → Option O
  | .lst ds => match intsD ds with
    | some ns => if ns.length ≤ lim then some (intsL (sortI ns)) else none
    | none => none
  | _ => none
theorem sort_sem {κ : Kx} : Call1 κ (rSortedI κ.K) sortO := by
  intro A F H ρ σ τ υ g o v B w u e Q q
  unfold sortO at e
  split at e
  · rename_i ds ex
    split at e
    · rename_i ns en
      split at e
      · cases e
        obtain ⟨a, vs, rfl, h1, h2⟩ := w.lst_v ex g.fh
        rw [ints_v h2 en] at h1
        refine ⟨a, ns, rfl, SqL.of h1, fun ns' p hp hw hn => q _ _ ?_⟩
        have := le_eq (hp.trans (sortI_perm ns).symm) hw (sortI_pw ns)
        subst this
        exact fin_lst g hn (reps_ints _)
      · cases e
    · cases e
  · cases e
def sortSetO : D → Option O
  | .lst ds => match intsD ds with
    | some ns => if ns.length < 64 then some (intsL (sortU ns)) else none
    | none => none
  | _ => none
def sortAbsO : D → Option O
  | .lst ds => match intsD ds with
    | some ns => if ns.length < 64 ∧ (ns.map absZ).Nodup then some (intsL (sortA ns)) else none
    | none => none
  | _ => none
def mOp1 (f : D → Option O) (m : M (Option Nat × O)) : M O := mBind m fun x => match f x.2.toD with
  | some o => mPure o
  | none => fun _ => .bad
section
variable {X : Cx} {W : WX'} {e st : Expr} {p : Bool} {m : M (Option Nat × O)}
/-- sorted(set(e)) -/
theorem dE_sortSet {e2 : Expr} (h2 : ∀ t, PA X [e2] t → PE X st (tCB (rSortedSet X.w) t)) (h1 : ∀ t, PA X [e] t → PE X e2 (tCB (rSetLI X.K X.w) t)) (he : PE X e (tB (kx X) W p m))
    (hs1 : starEach (e :: []) X.env = (false, eval e X.env) :: starEach [] X.env := by rfl) (hs2 : starEach (e2 :: []) X.env = (false, eval e2 X.env) :: starEach [] X.env := by rfl) : PE X st (tE (kx X) W p (mOp1 sortSetO m)) :=
  pe_imp (h2 _ (pa_cons (h1 _ (pa_cons he pa_nil hs1)) pa_nil hs2)) fun σ H Q ⟨A, F, ρ, τ, υ, g, h⟩ => ⟨A, F, ρ, τ, υ, g, h.bind.imp fun x ρ1 h v B A1 F1 H1 s1 g1 w _ => by
    cases eo : sortSetO x.2.toD with
    | none => rw [eo] at h; exact h.elim
    | some o =>
      rw [eo] at h
      unfold sortSetO at eo
      split at eo
      · rename_i ds ex
        split at eo
        · rename_i ns en
          split at eo
          · rename_i hl
            cases eo
            obtain ⟨a, vs, rfl, h3, h4⟩ := w.lst_v ex g1.fh
            rw [ints_v h4 en] at h3
            refine ⟨a, ns, rfl, SqL.of h3, by omega, fun pp c hp hc => ?_⟩
            obtain ⟨g2, s2⟩ := sJunk (pp := p) g1 (SetO X.w pp (fun j => decide (j ∈ ns)) c) hp
            refine ⟨pp, _, c, rfl, upd_same, by omega, fun ns' pq hw hm _ hn => ?_⟩
            have := strict_eq hw (sortU_pw ns) fun k => by rw [hm k, mem_sortU]; simp
            subst this
            obtain ⟨A3, F3, s3, g3⟩ := fin_lst g2 hn (reps_ints (sortU ns))
            exact h _ A3 F3 _ (((s1.trans s2).trans s3).imp fun z => by rw [z]; rfl) g3
          · cases eo
        · cases eo
      · cases eo⟩
/-- sorted(e, key=abs) -/
theorem dE_sortAbs (h1 : ∀ t, PA X [e] t → PE X st (fun σ H Q => t σ H fun vs H1 => ∃ (a : Addr) (ns : List Int), vs = [V.ref a] ∧ SqL X.K H1 a (ns.map V.int) ∧ ns.length < 64 ∧
      ∀ (ns' : List Int) (p : Addr), ns'.Perm ns → ns'.Pairwise (fun i j => absZ i ≤ absZ j) → H1 p = none → Q (.ref p) (upd H1 p (.lst (ns'.map V.int))))) (he : PE X e (tB (kx X) W p m))
    (hs1 : starEach (e :: []) X.env = (false, eval e X.env) :: starEach [] X.env := by rfl) : PE X st (tE (kx X) W p (mOp1 sortAbsO m)) :=
  pe_imp (h1 _ (pa_cons he pa_nil hs1)) fun σ H Q ⟨A, F, ρ, τ, υ, g, h⟩ => ⟨A, F, ρ, τ, υ, g, h.bind.imp fun x ρ1 h v B A1 F1 H1 s1 g1 w _ => by
    cases eo : sortAbsO x.2.toD with
    | none => rw [eo] at h; exact h.elim
    | some o =>
      rw [eo] at h
      unfold sortAbsO at eo
      split at eo
      · rename_i ds ex
        split at eo
        · rename_i ns en
          split at eo
          · rename_i hl
            cases eo
            obtain ⟨a, vs, rfl, h3, h4⟩ := w.lst_v ex g1.fh
            rw [ints_v h4 en] at h3
            refine ⟨a, ns, rfl, SqL.of h3, hl.1, fun ns' pq hp hw hn => ?_⟩
            have := key_eq absZ (hp.trans (sortA_perm ns).symm) ((hp.map absZ).nodup_iff.mpr hl.2) hw (sortA_pw ns)
            subst this
            obtain ⟨A3, F3, s3, g3⟩ := fin_lst g1 hn (reps_ints (sortA ns))
            exact h _ A3 F3 _ ((s1.trans s3).imp fun z => by rw [z]; rfl) g3
          · cases eo
        · cases eo
      · cases eo⟩
end
end DL

end

section
set_option Elab.async false
set_option linter.all false
set_option maxRecDepth 100000
/-! DL, part O: chains, late subscripts, comprehensions as expressions, calls in short. -/
namespace DL
open PySem L2 RZ PyProof.Rows

section
variable {X : Cx} {κ : Kx} {W : WX'} {a b c e : Expr} {p q s : Bool} {pos : Pos}
theorem dV_no {m : M D} (h : PE X e (tV κ W p m)) : PE X e (tV κ W false m) := pe_imp h fun σ H Q ⟨A, F, ρ, τ, υ, g, h⟩ =>
  ⟨A, F, ρ, τ, υ, g, h.imp fun r ρ' h v A' F' H' s g' => h v A' F' H' (.no s.fr) g'⟩
/-! chains -/
def bO : Option O → M Bool
  | some (.fd (.sh (.bl k))) => mPure k
  | _ => fun _ => .bad
def mChain (f f' : D → D → Option O) (ma mb mc : M D) : M Bool := mBind ma fun x => mBind mb fun y => mBind (bO (f x y)) fun k => if k then mBind mc fun z => bO (f' y z) else mPure false
theorem op2_bl_run {r : R2} {f : D → D → Option O} (hs : Op2 κ r f) {A : Fp} {F H : Hp} {ρ : Env} {σ : L2.St} {τ : List O} {υ : List V} (g : G κ A F H ρ σ τ υ) {x y : V} {d e : D} (rx : Rep κ F x d) (ry : Rep κ F y e) {k : Bool} (h : f d e = some (.sh (.bl k)))
    {Q : VK} (q : ∀ A' F' H', Fr A F H A' F' H' → G κ A' F' H' ρ σ τ υ → Q (.bl k) H') : r x y H Q := by
  refine hs A F H ρ σ τ υ g (.sh d) (.sh e) x y [] [] (.fd (.sh rx)) (.fd (.sh ry)) _ h Q fun v H' ⟨A', F', s', g'⟩ => ?_
  obtain ⟨rfl, A2, g2, s2⟩ := bl_top g'
  exact q A2 F' H' (s'.fr.trans s2.fr) g2
theorem bO_of {A : Fp} {F H : Hp} {σ : L2.St} {τ : List O} {υ : List V} {o : Option O} {ρ : Env} {Q : Bool → Env → Prop} (h : Wp κ W A F H σ τ υ (bO o ρ) Q) : ∃ k, o = some (.sh (.bl k)) ∧ Q k ρ := by
  cases o with
  | none => exact h.elim
  | some o =>
    cases o with
    | fd f =>
      cases f with
      | sh d =>
        cases d with
        | bl k => exact ⟨k, rfl, h⟩
        | _ => exact h.elim
      | ct _ => exact h.elim
    | rc _ _ => exact h.elim
theorem tChain_of {r r' : R2} {f f' : D → D → Option O} (hs : Op2 κ r f) (hs' : Op2 κ r' f') {ma mb mc : M D} {σ : L2.St} {H : Hp} {Q : VK} (h : ∃ A F ρ τ υ, G κ A F H ρ σ τ υ ∧ Wp κ W A F H σ τ υ (mChain f f' ma mb mc ρ) fun k ρ' => ∀ A' F' H', Fr A F H A' F' H' → G κ A' F' H' ρ' σ τ υ → Q (.bl k) H') :
    tChain r r' (tV κ W p ma) (tV κ W q mb) (tV κ W s mc) σ H Q := by
  obtain ⟨A, F, ρ, τ, υ, g, h⟩ := h
  refine ⟨A, F, ρ, τ, υ, g, h.bind.imp fun x ρ1 h v1 A1 F1 H1 s1 g1 r1 => ⟨A1, F1, ρ1, τ, υ, g1, (h.step s1.fr).bind.imp fun y ρ2 h v2 A2 F2 H2 s2 g2 r2 => ?_⟩⟩
  obtain ⟨k, ef, h⟩ := bO_of (h.step s2.fr).bind
  refine op2_bl_run hs g2 (r1.mono s2.fr.grow) r2 ef fun A3 F3 H3 f3 g3 => ⟨k, rfl, ?_⟩
  cases k with
  | false =>
    rw [if_neg Bool.false_ne_true]
    exact h A3 F3 H3 ((s1.fr.trans s2.fr).trans f3) g3
  | true =>
    rw [if_pos rfl]
    have h : Wp κ W A2 F2 H2 σ τ υ ((mBind mc fun z => bO (f' y z)) ρ2) _ := h
    refine ⟨A3, F3, ρ2, τ, υ, g3, (h.step f3).bind.imp fun z ρ4 h v4 A4 F4 H4 s4 g4 r4 => ?_⟩
    obtain ⟨j, ef', h⟩ := bO_of h
    exact op2_bl_run hs' g4 (r2.mono (f3.grow.trans s4.fr.grow)) r4 ef' fun A5 F5 H5 f5 g5 => h A5 F5 H5 ((((s1.fr.trans s2.fr).trans f3).trans s4.fr).trans f5) g5
theorem dV_chain {op op' : CmpOp} {r r' : R2} {f f' : D → D → Option O} {ma mb mc : M D} (ho : OpR X (compareOp op) r) (hs : Op2 κ r f) (ho' : OpR X (compareOp op') r') (hs' : Op2 κ r' f') (ha : PE X a (tV κ W p ma)) (hb : PE X b (tV κ W q mb)) (hc : PE X c (tV κ W s mc))
    (hm : lastMarks [op, op'] [b, c] = false := by with_unfolding_all rfl) : PE X (.Compare a [op, op'] [b, c] pos) (tV κ W false (mMap D.bl (mChain f f' ma mb mc))) :=
  pe_imp (pe_chain ho ho' ha hb hc hm) fun σ H Q ⟨A, F, ρ, τ, υ, g, h⟩ => tChain_of hs hs' ⟨A, F, ρ, τ, υ, g, h.map.imp fun k ρ' h A' F' H' f' g' => h _ A' F' H' (.no f') g' (.bl k)⟩
theorem dT_chain {op op' : CmpOp} {r r' : R2} {f f' : D → D → Option O} {ma mb mc : M D} (ho : OpR X (compareOp op) r) (hs : Op2 κ r f) (ho' : OpR X (compareOp op') r') (hs' : Op2 κ r' f') (ha : PE X a (tV κ W p ma)) (hb : PE X b (tV κ W q mb)) (hc : PE X c (tV κ W s mc))
    (hm : lastMarks [op, op'] [b, c] = false := by with_unfolding_all rfl) : PT X (.Compare a [op, op'] [b, c] pos) (tT κ W false (mChain f f' ma mb mc)) :=
  pt_imp (pt_chain ho ho' ha hb hc hm) fun σ H Q ⟨A, F, ρ, τ, υ, g, h⟩ => tChain_of hs hs' ⟨A, F, ρ, τ, υ, g, h.imp fun k ρ' h A' F' H' f' g' => ⟨k, rfl, h A' F' H' (.no f') g'⟩⟩
end

/-! ### a slot's item, the slot read late -/
def mSubN (i : Nat) (mb : M D) : M (Option Nat × O) := fun ρ => match ρ[i]? with
  | some (some _) => mBind mb (fun k ρ' => match ρ'[i]? with
    | some (some o) => match itemOf (some i, o) k with
      | some y => .ok y ρ'
      | none => .bad
    | _ => .bad) ρ
  | _ => .bad
def nowD (mb : M D) (i : Nat) (ρ : Env) : Bool := match mb ρ with
  | .ok _ ρ' => match ρ'[i]? with
    | some (some o) => isDict o
    | _ => false
  | _ => false
section
variable {X : Cx} {W : WX'} {b : Expr} {p pb : Bool} {mb : M D} {pos px : Pos} {x : Str} {i : Nat}
theorem tSubN_of {κ : Kx} {r : R2} (P : O → Prop) {σ : L2.St} {H : Hp} {Q : VK}
    (hr : ∀ (A : Fp) (F H : Hp) (ρ : Env) (σ : L2.St) (τ : List O) (υ : List V), G κ A F H ρ σ τ υ → ∀ (z : Option Nat) (o : O) (v : V) (B : List Addr), Own κ F H o v B → Src ρ A z B → P o → ∀ (y : V) (k : D), Rep κ H y k → ∀ x, itemOf (z, o) k = some x → ∀ Q : VK, (∀ u S, Own κ F H x.2 u S → Src ρ A x.1 S → Q u H) → r v y H Q)
    {A : Fp} {F : Hp} {ρ : Env} {τ : List O} {υ : List V} (g : G κ A F H ρ σ τ υ) (hP : ∀ k ρ1 o, mb ρ = .ok k ρ1 → ρ1[i]? = some (some o) → P o)
    (h : Wp κ W A F H σ τ υ (mSubN i mb ρ) fun r ρ' => ∀ v B A' F' H', Stp false ρ A F H ρ' A' F' H' → G κ A' F' H' ρ' σ τ υ → Own κ F' H' r.2 v B → Src ρ' A' r.1 B → Q v H') : tOp r (tVar i) (tV κ W pb mb) σ H Q := by
  unfold mSubN at h
  split at h
  · rename_i o0 e0
    obtain ⟨v1, h1, w1⟩ := g.slot e0
    refine ⟨v1, h1, A, F, ρ, τ, υ, g, ?_⟩
    have h2 := h.bind
    cases e1 : mb ρ with
    | bad => rw [e1] at h2; exact h2.elim
    | exc d ρ1 => rw [e1] at h2; exact h2
    | ok k ρ1 =>
      rw [e1] at h2
      intro v2 A2 F2 H2 s2 g2 r2
      have h2 : Wp κ W A F H σ τ υ (match ρ1[i]? with
        | some (some o) => match itemOf (some i, o) k with
          | some y => .ok y ρ1
          | none => .bad
        | _ => .bad) _ := h2
      split at h2
      · rename_i o eo
        obtain ⟨v1', h1', w1'⟩ := g2.slot eo
        rw [h1] at h1'; cases h1'
        cases e3 : itemOf (some i, o) k with
        | none => rw [e3] at h2; exact h2.elim
        | some y =>
          rw [e3] at h2
          exact hr A2 F2 H2 ρ1 σ τ υ g2 (some i) o v1 _ w1' (fun b hb => ⟨⟨o, eo, by
            cases q : isSh o with
            | false => rfl
            | true =>
              obtain ⟨d, rfl, _⟩ := isSh_v q w1'
              rw [w1'.sh_nil] at hb
              simp at hb⟩, hb⟩) (hP k ρ1 o e1 eo) v2 k (r2.mono g2.fh) y e3 Q fun u S w3 s3 => h2 u S A2 F2 H2 (.no s2.fr) g2 w3 s3
      · exact h2.elim
  · exact h.elim
theorem dB_subN (hu : X.A.units + 1 < cLine) (ha : PE X (.Name x px) (tVar i)) (hb : PE X b (tV (kx X) W pb mb)) (hs : PlainIx b) (hs' : NoSl b) : PE X (.Subscript (.Name x px) b pos) (tB (kx X) W false (mSubN i mb)) :=
  pe_imp (pe_either (pe_ix ix_seq ha hb hs) (pe_dget hu ha hb hs')) fun σ H Q ⟨A, F, ρ, τ, υ, g, h⟩ => by
    cases hd : nowD mb i ρ with
    | false =>
      refine .inl (tSubN_of (fun o => isDict o = false) (fun A F H ρ σ τ υ g z o v B w sr hp y k ry x e Q q => item_of g w ry hp e q) g (fun k ρ1 o e1 eo => ?_) h)
      unfold nowD at hd
      rw [e1] at hd
      simp only [eo] at hd
      exact hd
    | true =>
      refine .inr (tSubN_of (r := fun x y H Q => ∃ a v, x = .ref a ∧ DGet H a y (some v) ∧ Q v H) (fun o => isDict o = true) (fun A F H ρ σ τ υ g z o v B w sr hp y k ry x e Q q => by
        obtain ⟨a, u, S, h1, h2, h3, h4⟩ := dget_of g w sr ry hp e
        exact ⟨a, u, h1, h2, q u S h3 h4⟩) g (fun k ρ1 o e1 eo => ?_) h)
      unfold nowD at hd
      rw [e1] at hd
      simp only [eo] at hd
      exact hd
end

/-! ### comprehensions -/
section
variable {X : Cx} {W W' : WX'} {elt tg iter : Expr} {ifs : List Expr} {scope : Scope} {own : List (Str × Nat)} {pos : Pos} {p pt pe : Bool} {ts mu : List Nat} {src : M (List D)} {b : Bn} {t : M Bool} {m : M D}
theorem dE_lc (hc : X.calm = true) (hN : X.N.Nodup) (ok : BlkOk X.N X.env.scope scope own) (hi : PI X tg iter (tIt (kx X) W p src))
    (hg : ∀ (s : Shared) (H : Hp) (C : Addr) (cl : List (Str × Addr)) (fp : List Addr), PG (X.blk s H scope (compEnvC scope cl C X.env) fp) tg (tBn (kx X) ts b))
    (ht : ∀ (s : Shared) (H : Hp) (C : Addr) (cl : List (Str × Addr)) (fp : List Addr), PTs (X.blk s H scope (compEnvC scope cl C X.env) fp) ifs (tT (kx X) W' pt t))
    (he : ∀ (s : Shared) (H : Hp) (C : Addr) (cl : List (Str × Addr)) (fp : List Addr), PE (X.blk s H scope (compEnvC scope cl C X.env) fp) elt (tV (kx X) W' pe m))
    (hs : ∀ i ∈ ts, i ∈ own.map (·.2) := by decide) (hf : ∀ x, foldedSetIterable iter X.env x = pure x := by intro _; rfl) :
    PE X (.ListComp elt [⟨tg, iter, ifs, 0⟩] scope pos) (tE (kx X) W false (mLc (own.map (·.2)) src b t m)) :=
  pe_imp (pe_lc hc hN hi ok hg ht he hf) fun _ _ _ h => tLc_of hs (fun _ _ _ z => z) h
theorem dS_setLc {i : Nat} {y : Str} {py spos : Pos} (hc : X.calm = true) (hN : X.N.Nodup) (hy : X.N[i]? = some y) (hyl : X.env.scope.names.lookup y = some .local)
    (hsw : swapsWith (.ListComp elt [⟨tg, iter, ifs, 0⟩] scope pos) (some (.Name y py)) spos.line X.env = pure true) (ok : BlkOk X.N X.env.scope scope own) (hi : PI X tg iter (tIt (kx X) W p src))
    (hg : ∀ (s : Shared) (H : Hp) (C : Addr) (cl : List (Str × Addr)) (fp : List Addr), PG (X.blk s H scope (compEnvC scope cl C X.env) fp) tg (tBn (kx X) ts b))
    (ht : ∀ (s : Shared) (H : Hp) (C : Addr) (cl : List (Str × Addr)) (fp : List Addr), PTs (X.blk s H scope (compEnvC scope cl C X.env) fp) ifs (tT (kx X) W' pt t))
    (he : ∀ (s : Shared) (H : Hp) (C : Addr) (cl : List (Str × Addr)) (fp : List Addr), PE (X.blk s H scope (compEnvC scope cl C X.env) fp) elt (tV (kx X) W' pe m))
    (hm : i ∉ mu) (hs : ∀ i ∈ ts, i ∈ own.map (·.2) := by decide) (hf : ∀ x, foldedSetIterable iter X.env x = pure x := by intro _; rfl) :
    PS X (.Assign [.Name y py] (.ListComp elt [⟨tg, iter, ifs, 0⟩] scope pos) spos) (tS (kx X) W mu (sAsg i (mLc (own.map (·.2)) src b t m))) :=
  ps_imp (ps_setLc hc hN hy hyl hsw hi ok hg ht he hf) fun E σ H ⟨A, F, ρ, g, h⟩ => tLc_of hs (fun _ _ _ z => z) ⟨A, F, ρ, [], [], g, h.bind.imp fun r ρ1 h v A1 F1 H1 s1 g1 => by
    obtain ⟨g2, f2⟩ := G.assign (τ := []) (υ := []) (i := i) g1
    exact h _ _ F1 H1 (s1.fr.trans f2) g2 fun j hj => List.getElem?_set_ne (fun z => hm (by rw [z]; exact hj))⟩
end

/-! ### the law's own head -/
/-- law's promise: a row of at most 63 ints is handed in, True comes out -/
def spLaw (K : PySem.W.Frag) : Sp := fun vs H Q _ => ∃ (a : Addr) (ns : List Int), vs = [.ref a] ∧ SqL K H a (ns.map V.int) ∧ ns.length ≤ 63 ∧ ∀ H', Q (.bl true) H'
theorem fn_law {P : Program} {w : World} {K : PySem.W.Frag} {mg : Str → Option Value} {base : Heap} {CX : CXT} {k : Nat} {f : Addr} {fd : FuncData} {ps : List Str} {sem : Sem} (F : FnOk P w K mg base CX k f fd ps (spD ⟨K, mg⟩ 1 sem))
    (h : ∀ ns : List Int, ns.length ≤ 63 → ∃ fs, sem [.sh (.fz (ns.map D.int))] = .ok (.sh (.bl true)) fs) : FnOk P w K mg base CX k f fd ps (spLaw K) := by
  refine F.imp fun vs H Q E ⟨a, ns, e, hs, hl, q⟩ => ?_
  subst e
  obtain ⟨fs, ef⟩ := h ns hl
  refine ⟨rfl, fun _ => [], H, [.sh (.fz (ns.map D.int))], ⟨rfl, rfl, fun x o eo => ?_, fun _ => List.nodup_nil, fun _ _ _ _ hx => by simp at hx, fun _ _ hx => by simp at hx, fun _ _ hx => by simp at hx, fun _ _ e => e⟩, ?_⟩
  · cases x with
    | t k => simp [atO] at eo
    | s i =>
      cases i with
      | zero =>
        simp [atO] at eo
        subst eo
        exact ⟨.ref a, by simp [atV], .fd (.sh (.fz hs (reps_ints ns)))⟩
      | succ i => simp [atO] at eo
  · rw [ef]
    intro v A' F' H' f' g'
    have g'' : G ⟨K, mg⟩ A' F' H' fs ([V.ref a].map some) ([] ++ [.sh (.bl true)]) ([] ++ [v]) := g'
    obtain ⟨_, w, _⟩ := g''.pop
    rw [w.sh_v.bl_v]
    exact q H'
end DL

end

section
set_option Elab.async false
set_option linter.all false
set_option maxRecDepth 100000
/-! DL, part P: what the printed walks use. -/
namespace DL
open PySem L2 RZ PyProof.Rows

theorem hu64 {A : Around} {k : Nat} (hr : Room k A) : A.units + 64 < cLine := by have := hr.un; omega
/-- a def that can be called by its name -/
structure Cal (P : Program) (w : World) (K : PySem.W.Frag) (mg : Str → Option Value) (base : Heap) (k : Nat) (x : Str) (ps : List Str) (sem : Sem) : Prop where
  ex : ∃ (f : Addr) (fd : FuncData), FnOk P w K mg base CX0 k f fd ps (spD ⟨K, mg⟩ ps.length sem) ∧ mg x = some (.ref f) ∧ PySem.W.keepIn K (.ref f) = true ∧ Binds K fd ps []
theorem fn_bad {P : Program} {w : World} {K : PySem.W.Frag} {mg : Str → Option Value} {base : Heap} {k : Nat} {f : Addr} {fd : FuncData} {ps : List Str} : FnOk P w K mg base CX0 k f fd ps (spD ⟨K, mg⟩ ps.length fun _ => .bad) :=
  ⟨fun vs H Q E h => h.1, fun A outer s H args us vs Q E hr he hb hv hs => by obtain ⟨_, _, _, _, _, z⟩ := hs; exact z.elim⟩
theorem de_callC {X : Cx} {W : WX'} {x : Str} {p pos : Pos} {e : Expr} {es : List Expr} {j k : Nat} {ps : List Str} {sem : Sem} {as : List (Option Nat)} {ms : M (List O)} (C : Cal X.prog X.w X.K X.mg X.base j x ps sem) (hr : Room k X.A) (hjk : j ≤ k) (hg : Gl X x) (ha : PA X (e :: es) (tAs (kx X) W as ms))
    (hn : as.length = ps.length := by rfl) (nd : (as.filterMap id).Nodup := by decide) (hdb : (x == ("__debug__" : Str)) = false := by decide) (he : starEach (e :: es) X.env = (false, eval e X.env) :: starEach es X.env := by rfl) (hpl : (backTo pos (starEach es X.env)).any (·.1) = false := by rfl) :
    PE X (.Call (.Name x p) (e :: es) [] pos) (tE (kx X) W false (mCallF sem as ms)) := by
  obtain ⟨f, fd, F, m, kp, b⟩ := C.ex
  exact de_call (fun t h => pe_call (F.mono hjk) hr hg m kp b .nil pass0 h hdb he hpl) ha hn nd
section
variable {X : Cx} {κ : Kx} {W : WX'} {mu : List Nat} {p : Bool}
theorem dBs_no {es : List Expr} {m : M (List (Option Nat × O))} (h : PA X es (tBs κ W p m)) : PA X es (tBs κ W false m) := pa_imp h fun σ H Q ⟨A, F, ρ, τ, υ, g, h⟩ =>
  ⟨A, F, ρ, τ, υ, g, h.imp fun r ρ' h v A' F' H' s g' => h v A' F' H' (.no s.fr) g'⟩
/-- a, b = x, y by way of a pair -/
theorem dS_parA {i j : Nat} {st : Stmt} {tg : Expr} {es : List Expr} {kk : Nat} {pt : Pos} {ms : M (List O)} (h : ∀ te g, PE X (.Tuple es kk pt) te → PG X tg g → PS X st (tAsg te g)) (ha : PA X es (tEs κ W p ms)) (hg : PG X tg (gTup X.K 2 (gCons (gName i) (gCons (gName j) gNil)))) (hij : i ≠ j) (hi : i ∉ mu) (hj : j ∉ mu) :
    PS X st (tS κ W mu (sPar i j ms)) :=
  ps_imp (h _ _ (pe_tup ha) hg) fun E σ H ⟨A, F, ρ, g, h⟩ => ⟨A, F, ρ, [], [], g, h.bind.imp fun rs ρ1 h vs A1 F1 H1 s1 g1 l1 => by
    split at h
    · rename_i r s
      match vs, l1 with
      | [v, w], _ =>
        refine ⟨by show 2 ≤ sizeLine; decide, fun a ha => ?_⟩
        obtain ⟨g1', s1'⟩ := sJunk (pp := false) g1 (.tup [v, w]) ha
        refine ⟨a, [v, w], rfl, .inl (.inl upd_same), rfl, v, [w], rfl, w, [], rfl, rfl, ?_⟩
        obtain ⟨g2, f2⟩ := G.assign (τ := [r]) (υ := [v]) (r := s) (v := w) (i := j) g1'
        obtain ⟨g3, f3⟩ := G.assign (τ := []) (υ := []) (i := i) g2
        have e1 : (List.set σ j (some w)).set i (some v) = (List.set σ i (some v)).set j (some w) := List.set_comm _ _ (Ne.symm hij)
        rw [e1] at g3
        refine h _ _ F1 _ (((s1.fr.trans s1'.fr).trans f2).trans f3) g3 fun k hk => ?_
        rw [List.getElem?_set_ne (fun z => hj (by rw [z]; exact hk)), List.getElem?_set_ne (fun z => hi (by rw [z]; exact hk))]
    · exact h.elim⟩
end
end DL

end

section
set_option Elab.async false
set_option linter.all false
set_option maxRecDepth 100000
/-! DL, part Q: denotations evaluated; loops by an invariant; the pen. -/
namespace DL
open PySem L2 RZ PyProof.Rows

/-! ### evaluation -/
section
variable {α β : Type}
theorem mBind_ok {m : M α} {k : α → M β} {ρ ρ' : Env} {a : α} (h : m ρ = .ok a ρ') : mBind m k ρ = k a ρ' := by unfold mBind; rw [h]
theorem sBind_ok {m : M α} {k : α → MS} {ρ ρ' : Env} {a : α} (h : m ρ = .ok a ρ') : sBind m k ρ = k a ρ' := by unfold sBind; rw [h]
theorem mMap_ok {m : M α} {f : α → β} {ρ ρ' : Env} {a : α} (h : m ρ = .ok a ρ') : mMap f m ρ = .ok (f a) ρ' := by unfold mMap; rw [h]
theorem sSeq_next {m n : MS} {ρ ρ' : Env} (h : m ρ = .next ρ') : sSeq m n ρ = n ρ' := by unfold sSeq; rw [h]
theorem sSeq_ret {m n : MS} {ρ ρ' : Env} {r : O} (h : m ρ = .ret r ρ') : sSeq m n ρ = .ret r ρ' := by unfold sSeq; rw [h]
/-- for, by an invariant: P of the loop's end -/
theorem forGo_by {b : Bn} {body : MS} {P : OutS → Prop} (I : Nat → Env → Prop) : ∀ (ds : List D) (k : Nat) (ρ : Env), I k ρ →
    (∀ i d ρ, ds[i]? = some d → I (k + i) ρ → ∃ ρ1, b d ρ = some ρ1 ∧ ((∃ ρ2, (body ρ1 = .next ρ2 ∨ body ρ1 = .cont ρ2) ∧ I (k + i + 1) ρ2) ∨ (∃ ρ2, body ρ1 = .brk ρ2 ∧ P (.next ρ2)) ∨ ∃ r ρ2, body ρ1 = .ret r ρ2 ∧ P (.ret r ρ2))) →
    (∀ ρ, I (k + ds.length) ρ → P (.next ρ)) → P (forGo b body ds ρ)
  | [], k, ρ, h, _, fin => fin ρ (by simpa using h)
  | d :: ds, k, ρ, h, step, fin => by
    obtain ⟨ρ1, hb, hs⟩ := step 0 d ρ (by simp) (by simpa using h)
    rw [forGo_cons, hb]
    simp only
    rcases hs with ⟨ρ2, hn, hi⟩ | ⟨ρ2, hn, hp⟩ | ⟨r, ρ2, hn, hp⟩
    · have hi : I (k + 1) ρ2 := by simpa using hi
      have go : P (forGo b body ds ρ2) := forGo_by I ds (k + 1) ρ2 hi (fun i d ρ hd h => by
        have := step (i + 1) d ρ (by simpa using hd) (by rw [show k + (i + 1) = k + 1 + i by omega]; exact h)
        rw [show k + (i + 1) + 1 = k + 1 + i + 1 by omega] at this
        exact this) fun ρ h => fin ρ (by rw [show k + (d :: ds).length = k + 1 + ds.length by simp; omega]; exact h)
      rcases hn with hn | hn <;> rw [hn] <;> exact go
    · rw [hn]; exact hp
    · rw [hn]; exact hp
/-- a comprehension, by an invariant over the turns and the values so far -/
theorem lcGo_by {vs : List Nat} {b : Bn} {t : M Bool} {e : M D} {P : List D → Env → Prop} (I : Nat → List D → Env → Prop) : ∀ (ds : List D) (k : Nat) (acc : List D) (ρ : Env), I k acc ρ →
    (∀ i d acc ρ, ds[i]? = some d → I (k + i) acc ρ → ∃ ρ1 c ρ2, b d ρ = some ρ1 ∧ t ρ1 = .ok c ρ2 ∧ (c = false → I (k + i + 1) acc (wipeE ρ2 vs)) ∧ (c = true → acc.length < lim ∧ ∃ y ρ3, e ρ2 = .ok y ρ3 ∧ I (k + i + 1) (acc ++ [y]) (wipeE ρ3 vs))) →
    (∀ acc ρ, I (k + ds.length) acc ρ → P acc ρ) → ∃ out ρ', lcGo vs b t e ds acc ρ = .ok out ρ' ∧ P out ρ'
  | [], k, acc, ρ, h, _, fin => ⟨acc, ρ, rfl, fin acc ρ (by simpa using h)⟩
  | d :: ds, k, acc, ρ, h, step, fin => by
    obtain ⟨ρ1, c, ρ2, hb, ht, h0, h1⟩ := step 0 d acc ρ (by simp) (by simpa using h)
    have rest : ∀ acc' ρ', I (k + 1) acc' ρ' → ∃ out ρ'', lcGo vs b t e ds acc' ρ' = .ok out ρ'' ∧ P out ρ'' := fun acc' ρ' h' =>
      lcGo_by I ds (k + 1) acc' ρ' h' (fun i d acc ρ hd h => by
        have := step (i + 1) d acc ρ (by simpa using hd) (by rw [show k + (i + 1) = k + 1 + i by omega]; exact h)
        rw [show k + (i + 1) + 1 = k + 1 + i + 1 by omega] at this
        exact this) fun acc ρ h => fin acc ρ (by rw [show k + (d :: ds).length = k + 1 + ds.length by simp; omega]; exact h)
    unfold lcGo
    rw [hb]
    simp only
    rw [ht]
    cases c with
    | false =>
      simp only
      exact rest acc _ (by simpa using h0 rfl)
    | true =>
      obtain ⟨hl, y, ρ3, he, hi⟩ := h1 rfl
      simp only
      rw [he]
      simp only
      rw [if_pos hl]
      exact rest _ _ (by simpa using hi)
end
/-! ### statements from the left -/
section
variable {P : OutS → Prop} {m n : MS} {t : M Bool} {ρ ρ' : Env} {b : Bool} {r : O}
theorem w_seq (h : m ρ = .next ρ') (k : P (n ρ')) : P (sSeq m n ρ) := by rw [sSeq_next h]; exact k
theorem w_seqR (h : m ρ = .ret r ρ') (k : P (.ret r ρ')) : P (sSeq m n ρ) := by rw [sSeq_ret h]; exact k
/-- what a first statement's end is to be -/
def thenS (n : MS) (P : OutS → Prop) : OutS → Prop
  | .next ρ => P (n ρ)
  | o => P o
theorem w_seqP (h : thenS n P (m ρ)) : P (sSeq m n ρ) := by
  unfold sSeq
  cases e : m ρ <;> rw [e] at h <;> exact h
theorem w_ifT (h : t ρ = .ok true ρ') (k : P (m ρ')) : P (sIf t m n ρ) := by unfold sIf; rw [sBind_ok h]; exact k
theorem w_ifF (h : t ρ = .ok false ρ') (k : P (n ρ')) : P (sIf t m n ρ) := by unfold sIf; rw [sBind_ok h]; exact k
theorem w_next (k : P (.next ρ)) : P (sNext ρ) := k
theorem w_for {src : M (List D)} {bn : Bn} {body : MS} {ds : List D} (I : Nat → Env → Prop) (h : src ρ = .ok ds ρ') (h0 : I 0 ρ')
    (step : ∀ i d ρ, ds[i]? = some d → I i ρ → ∃ ρ1, bn d ρ = some ρ1 ∧ ((∃ ρ2, (body ρ1 = .next ρ2 ∨ body ρ1 = .cont ρ2) ∧ I (i + 1) ρ2) ∨ (∃ ρ2, body ρ1 = .brk ρ2 ∧ P (.next ρ2)) ∨ ∃ r ρ2, body ρ1 = .ret r ρ2 ∧ P (.ret r ρ2)))
    (fin : ∀ ρ, I ds.length ρ → P (.next ρ)) : P (sFor src bn body ρ) := by
  unfold sFor
  rw [sBind_ok h]
  exact forGo_by I ds 0 ρ' h0 (fun i d ρ hd hi => by
    have := step i d ρ hd (by simpa using hi)
    simpa using this) fun ρ hi => fin ρ (by simpa using hi)
theorem m_lc {vs : List Nat} {src : M (List D)} {bn : Bn} {t : M Bool} {e : M D} {ds : List D} {Q : List D → Env → Prop} (I : Nat → List D → Env → Prop) (h : src ρ = .ok ds ρ') (h0 : I 0 [] (wipeE ρ' vs))
    (step : ∀ i d acc ρ, ds[i]? = some d → I i acc ρ → ∃ ρ1 c ρ2, bn d ρ = some ρ1 ∧ t ρ1 = .ok c ρ2 ∧ (c = false → I (i + 1) acc (wipeE ρ2 vs)) ∧ (c = true → acc.length < lim ∧ ∃ y ρ3, e ρ2 = .ok y ρ3 ∧ I (i + 1) (acc ++ [y]) (wipeE ρ3 vs)))
    (fin : ∀ acc ρ2, I ds.length acc ρ2 → Q acc (backE ρ' ρ2 vs)) : ∃ acc ρ2, mLc vs src bn t e ρ = .ok (.lst acc) ρ2 ∧ Q acc ρ2 := by
  unfold mLc
  rw [mBind_ok h]
  obtain ⟨out, ρ2, e1, q⟩ := lcGo_by (vs := vs) (b := bn) (t := t) (e := e) (P := fun acc ρ2 => Q acc (backE ρ' ρ2 vs)) I ds 0 [] (wipeE ρ' vs) h0 (fun i d acc ρ hd hi => by
    have := step i d acc ρ hd (by simpa using hi)
    simpa using this) fun acc ρ hi => fin acc ρ (by simpa using hi)
  exact ⟨out, _, by rw [e1], q⟩
/-- goes on, in a state like that -/
def NextI (I : Env → Prop) (o : OutS) : Prop := ∃ ρ, o = .next ρ ∧ I ρ
/-- tells a value like that -/
def RetI (Q : O → Env → Prop) (o : OutS) : Prop := ∃ r ρ, o = .ret r ρ ∧ Q r ρ
theorem nextI {I : Env → Prop} {ρ : Env} (h : I ρ) : NextI I (.next ρ) := ⟨ρ, rfl, h⟩
theorem retI {Q : O → Env → Prop} {r : O} {ρ : Env} (h : Q r ρ) : RetI Q (.ret r ρ) := ⟨r, ρ, rfl, h⟩
theorem w_seqI (I : Env → Prop) (h : NextI I (m ρ)) (k : ∀ ρ', I ρ' → P (n ρ')) : P (sSeq m n ρ) := by
  obtain ⟨ρ', e, i⟩ := h
  exact w_seq e (k ρ' i)
/-- a first part that may tell the end -/
theorem w_seqRI {Q : O → Env → Prop} (I : Env → Prop) (h : RetI Q (m ρ) ∨ NextI I (m ρ)) (k : ∀ ρ', I ρ' → RetI Q (n ρ')) : RetI Q (sSeq m n ρ) := by
  rcases h with ⟨r, ρ', e, q⟩ | ⟨ρ', e, i⟩
  · exact w_seqR e (retI q)
  · exact w_seq e (k ρ' i)
theorem w_ret {Q : O → Env → Prop} {e : M O} {r : O} (h : e ρ = .ok r ρ') (q : Q r ρ') : RetI Q (sRet e ρ) := ⟨r, ρ', by unfold sRet; rw [sBind_ok h], q⟩
theorem w_asg {i : Nat} {e : M O} {r : O} (h : e ρ = .ok r ρ') (k : P (.next (ρ'.set i (some r)))) : P (sAsg i e ρ) := by unfold sAsg; rw [sBind_ok h]; exact k
theorem sem_of {N n : Nat} {mu : List Nat} {m : MS} {os : List O} {Q : O → Env → Prop} (hl : os.length = n) (h : RetI Q (m (os.map some ++ List.replicate (N - n) none))) : ∃ r ρ', semOf N n mu m os = .ok r (keepE mu n ρ') ∧ Q r ρ' := by
  obtain ⟨r, ρ', e, q⟩ := h
  refine ⟨r, ρ', ?_, q⟩
  unfold semOf
  rw [if_pos hl, e]
theorem sem_ret {N n : Nat} {mu : List Nat} {m : MS} {os : List O} {r : O} {ρ' : Env} (hl : os.length = n) (h : m (os.map some ++ List.replicate (N - n) none) = .ret r ρ') : semOf N n mu m os = .ok r (keepE mu n ρ') := by
  unfold semOf
  rw [if_pos hl, h]
end
end DL

end

section
set_option Elab.async false
set_option linter.all false
set_option maxRecDepth 100000
/-! DL, part R: defs that every law has: their denotations (as the printer prints them), what they tell. -/
namespace DL
open PySem L2 RZ PyProof.Rows
def d__law_pen : MS :=
  (sSeq (sAsg 1 (mMap O.sh (mPure (.int 0))))
  (sSeq (sFor (mBind (mNameV 0) seqD) (bName 2)
  (sAsg 1 (mOpS (liftI modI) (mCall (f1 intD) (mConsB true (mMap (fun o => ((none : Option Nat), o)) (mOpS addD (mOpN 1 (liftI mulI) (mMap (fun d => ((none : Option Nat), O.sh d)) (mPure (.int 47)))) (mNameB 2))) (mPure []))) (mMap (fun d => ((none : Option Nat), O.sh d)) (mPure (.int 1000000007))))))
  (sRet (mDisp (mConsP (mPure (.str "cells")) (mMap O.toD (mCall (f1 listD) (mConsB true (mNameB 0) (mPure [])))) (mConsP (mPure (.str "at")) (mPure (.int 0)) (mConsP (mPure (.str "digits")) (mPure (.int 0)) (mConsP (mPure (.str "count")) (mPure (.int 0)) (mConsP (mPure (.str "fold")) (mNameV 1) (mPure []))))))))))
def sem__law_pen : Sem := semOf 3 1 [0] d__law_pen
def d__law_draw : MS :=
  (sSeq (sPut 0 (mPure (.str "count")) (mMap O.toD (mOpS addD (mMap O.sh (mBind (mSubN 0 (mPure (.str "count"))) asSh)) (mMap (fun d => ((none : Option Nat), O.sh d)) (mPure (.int 1))))))
  (sSeq (sIf (mAndT (mBl (mOpS eqO (mMap O.sh (mBind (mSubN 0 (mPure (.str "digits"))) asSh)) (mMap (fun d => ((none : Option Nat), O.sh d)) (mPure (.int 0))))) (mBl (mOpS (liftB fun i j => decide (i < j)) (mMap O.sh (mBind (mSubN 0 (mPure (.str "at"))) asSh)) (mMap (fun o => ((none : Option Nat), o)) (mCall (f1 lenD) (mConsB true (mSubN 0 (mPure (.str "cells"))) (mPure []))))))) (sSeq (sAsg 2 (mMap O.sh (mBind (mSub false (mSubN 0 (mPure (.str "cells"))) (mBind (mSubN 0 (mPure (.str "at"))) asSh)) asSh)))
  (sSeq (sPut 0 (mPure (.str "at")) (mMap O.toD (mOpS addD (mMap O.sh (mBind (mSubN 0 (mPure (.str "at"))) asSh)) (mMap (fun d => ((none : Option Nat), O.sh d)) (mPure (.int 1))))))
  (sIf (mBl (mOpN 2 (liftB fun i j => decide (j ≤ i)) (mMap (fun o => ((none : Option Nat), o)) (mOpS (liftI powI) (mMap O.sh (mPure (.int 10))) (mMap (fun d => ((none : Option Nat), O.sh d)) (mPure (.int 18))))))) (sPut 0 (mPure (.str "digits")) (mMap O.toD (mOpN 2 (liftI subI) (mMap (fun o => ((none : Option Nat), o)) (mOpS (liftI powI) (mMap O.sh (mPure (.int 10))) (mMap (fun d => ((none : Option Nat), O.sh d)) (mPure (.int 18)))))))) (sPut 0 (mPure (.str "fold")) (mMap O.toD (mOpS (liftI modI) (mCall (f1 intD) (mConsB true (mMap (fun o => ((none : Option Nat), o)) (mOpS addD (mOpS (liftI mulI) (mMap O.sh (mBind (mSubN 0 (mPure (.str "fold"))) asSh)) (mMap (fun d => ((none : Option Nat), O.sh d)) (mPure (.int 69069)))) (mNameB 2))) (mPure []))) (mMap (fun d => ((none : Option Nat), O.sh d)) (mPure (.int 2147483587))))))))) sNext)
  (sSeq (sIf (mBl (mOpS (liftB fun i j => decide (j < i)) (mMap O.sh (mBind (mSubN 0 (mPure (.str "digits"))) asSh)) (mMap (fun d => ((none : Option Nat), O.sh d)) (mPure (.int 0))))) (sSeq (sAsg 3 (mOpS (liftI modI) (mCall (f1 intD) (mConsB true (mSubN 0 (mPure (.str "digits"))) (mPure []))) (mNameB 1)))
  (sSeq (sPut 0 (mPure (.str "digits")) (mMap O.toD (mOpS (liftI divI) (mMap O.sh (mBind (mSubN 0 (mPure (.str "digits"))) asSh)) (mNameB 1))))
  (sRet (mNameM 3)))) sNext)
  (sSeq (sAsg 4 (mOpS addD (mOpS addD (mMap O.sh (mBind (mSubN 0 (mPure (.str "fold"))) asSh)) (mMap (fun o => ((none : Option Nat), o)) (mOpS (liftI mulI) (mMap O.sh (mBind (mSubN 0 (mPure (.str "count"))) asSh)) (mMap (fun d => ((none : Option Nat), O.sh d)) (mPure (.int 7907)))))) (mMap (fun d => ((none : Option Nat), O.sh d)) (mPure (.int 43)))))
  (sRet (mOpS (liftI modI) (mOpS (liftI divI) (mCall (f1 intD) (mConsB true (mMap (fun o => ((none : Option Nat), o)) (mOpS (liftI modI) (mOpN 4 (liftI powI) (mMap (fun d => ((none : Option Nat), O.sh d)) (mPure (.int 17)))) (mMap (fun d => ((none : Option Nat), O.sh d)) (mPure (.int 2305843009213693951))))) (mPure []))) (mMap (fun d => ((none : Option Nat), O.sh d)) (mPure (.int 128)))) (mNameB 1)))))))
def sem__law_draw : Sem := semOf 5 2 [0, 1] d__law_draw
def d__law_pick : MS :=
  (sRet (mMap O.sh (mBind (mSubN 1 (mMap O.toD (mCallF sem__law_draw [some 0, none] (mHas 0 (mConsO (mCall (f1 lenD) (mConsB true (mNameB 1) (mPure []))) (mPure [])))))) asSh)))
def sem__law_pick : Sem := semOf 2 2 [0, 1] d__law_pick
def d__law_is_whole : MS :=
  (sRet (mMap O.sh (mAndV (mIsi ["int"] (mNameB 0)) (mMap (fun b => D.bl (!b)) (mTru (mMap (fun d => ((none : Option Nat), O.sh d)) (mIsi ["bool"] (mNameB 0))))))))
def sem__law_is_whole : Sem := semOf 1 1 [0] d__law_is_whole
def d__law_longer : MS :=
  (sSeq (sAsg 2 (mLst (mPure [])))
  (sSeq (sFor (mBind (mNameV 0) seqD) (bName 3)
  (sAsg 2 (mOpN 2 addD (mMap (fun o => ((none : Option Nat), o)) (mLc [4] (mBind (mCons (mNameV 1) (mPure [])) rng1) (bName 4) (mPure true) (mMap O.toD (mOpN 3 addD (mMap (fun d => ((none : Option Nat), O.sh d)) (mTup (mCons (mNameV 4) (mPure [])))))))))))
  (sRet (mNameM 2))))
def sem__law_longer : Sem := semOf 5 2 [0, 1] d__law_longer
def d__law_rows : MS :=
  (sSeq (sAsg 1 (mLst (mCons (mTup (mPure [])) (mPure []))))
  (sSeq (sFor (mBind (mCons (mNameV 0) (mPure [])) rng1) (bName 2)
  (sAsg 1 (mCallF sem__law_longer [some 1, none] (mHas 1 (mConsO (mMap O.sh (mPure (.int 2))) (mPure []))))))
  (sRet (mNameM 1))))
def sem__law_rows : Sem := semOf 3 1 [0] d__law_rows

theorem slotSh_s {x : Option O} {ρ : Env} {i : Nat} : slotSh (x :: ρ) (i + 1) = slotSh ρ i := rfl
theorem slotSh_sh {d : D} {ρ : Env} : slotSh (some (.fd (.sh d)) :: ρ) 0 = true := rfl
theorem slotSh_ct {c : Ct} {ρ : Env} : slotSh (some (.fd (.ct c)) :: ρ) 0 = false := rfl
theorem atI_nat {α : Type} {xs : List α} {i : Nat} {d : α} (h : xs[i]? = some d) : atI xs (i : Int) = some d := by
  have hi : i < xs.length := (List.getElem?_eq_some_iff.mp h).1
  unfold atI ixN
  rw [if_pos (by omega), if_pos (by omega)]
  simpa using h
theorem atI_of {α : Type} {xs : List α} {i : Int} {d : α} (h0 : 0 ≤ i) (h : xs[i.toNat]? = some d) : atI xs i = some d := by
  have e1 : i = ((i.toNat : Nat) : Int) := by omega
  rw [e1]
  exact atI_nat h
theorem atI_last {α : Type} {xs : List α} {d : α} : atI (xs ++ [d]) (-1) = some d := by
  unfold atI ixN
  rw [if_neg (by decide), if_pos (by simp; omega)]
  have : (-1 + ((xs ++ [d]).length : Int)).toNat = xs.length := by simp; omega
  rw [Option.bind_some, this]
  simp
theorem item_lst {z : Option Nat} {xs : List D} {i : Int} {d : D} (h0 : 0 ≤ i) (h : xs[i.toNat]? = some d) : itemOf (z, .sh (.lst xs)) (.int i) = some (none, .sh d) := by
  show (match atI xs i with
    | some d => some (none, O.sh d)
    | none => none) = _
  rw [atI_of h0 h]
theorem item_own {z : Option Nat} {xs : List D} {i : Int} {d : D} (h0 : 0 ≤ i) (h : xs[i.toNat]? = some d) : itemOf (z, .lst xs) (.int i) = some (none, .sh d) := by
  show (match atI xs i with
    | some d => some (none, O.sh d)
    | none => none) = _
  rw [atI_of h0 h]
theorem item_tup {z : Option Nat} {xs : List D} {i : Int} {d : D} (h0 : 0 ≤ i) (h : xs[i.toNat]? = some d) : itemOf (z, .sh (.tup xs)) (.int i) = some (none, .sh d) := by
  show (match atI xs i with
    | some d => some (none, O.sh d)
    | none => none) = _
  rw [atI_of h0 h]
def penKeys : List Key := [.inr "cells", .inr "at", .inr "digits", .inr "count", .inr "fold"]
def penO (cells : List D) (at_ digits count fold : Int) : O := .fd (.ct (.dk penKeys [.lst cells, .int at_, .int digits, .int count, .int fold]))
section
variable {z : Option Nat} {cells : List D} {a d c f v : Int}
theorem pen_cells : itemOf (z, penO cells a d c f) (.str "cells") = some (none, .sh (.lst cells)) := by rfl
theorem pen_at : itemOf (z, penO cells a d c f) (.str "at") = some (none, .sh (.int a)) := by rfl
theorem pen_digits : itemOf (z, penO cells a d c f) (.str "digits") = some (none, .sh (.int d)) := by rfl
theorem pen_count : itemOf (z, penO cells a d c f) (.str "count") = some (none, .sh (.int c)) := by rfl
theorem pen_fold : itemOf (z, penO cells a d c f) (.str "fold") = some (none, .sh (.int f)) := by rfl
theorem put_at : putO (penO cells a d c f) (.str "at") (.int v) = some (penO cells v d c f) := by rfl
theorem put_digits : putO (penO cells a d c f) (.str "digits") (.int v) = some (penO cells a v c f) := by rfl
theorem put_count : putO (penO cells a d c f) (.str "count") (.int v) = some (penO cells a d v f) := by rfl
theorem put_fold : putO (penO cells a d c f) (.str "fold") (.int v) = some (penO cells a d c v) := by rfl
end

@[simp] theorem toD_sh {d : D} : O.toD (.fd (.sh d)) = d := rfl
@[simp] theorem toD_lst {ds : List D} : O.toD (.fd (.ct (.lst ds))) = .lst ds := rfl
structure PenOk (k : Nat) (o : O) : Prop where
  ex : ∃ (ns : List Int) (a d c f : Int), o = penO (ns.map D.int) a d c f ∧ ns.length ≤ lim ∧ 0 ≤ a ∧ 0 ≤ d ∧ 0 ≤ f ∧ f < 2147483587 ∧ 0 ≤ c ∧ c ≤ k
theorem bl_and {p q : Bool} : (p && q) = true ↔ p = true ∧ q = true := Bool.and_eq_true_iff
theorem eq_int {i j : Int} : eqO (.int i) (.int j) = some (.sh (.bl (i == j))) := rfl

theorem powI10 : powI 10 18 = some 1000000000000000000 := by rfl
theorem pow_of {i : Int} (h0 : 0 ≤ i) (h : i < 18446744073709551616) : powI i 17 = some (i ^ 17) := by
  unfold powI
  rw [if_pos ⟨by decide, by decide, by omega⟩]
  rfl
theorem mul_of {i j : Int} (h : i.natAbs < P512) (h' : j.natAbs < P512) : mulI i j = some (i * j) := if_pos ⟨h, h'⟩
theorem div_of {i j : Int} (h : 0 < j) (h' : j.natAbs < P512) : divI i j = some (i / j) := if_pos ⟨h, h'⟩
theorem mod_of {i j : Int} (h : 0 < j) : modI i j = some (i % j) := if_pos h
theorem p512 : (18446744073709551616 : Nat) < P512 := by unfold P512; exact Nat.lt_of_lt_of_le (show 18446744073709551616 < 2 ^ 65 by decide) (Nat.pow_le_pow_right (by decide) (by decide))
theorem lt512 {i : Int} (h0 : 0 ≤ i) (h : i < 18446744073709551616) : i.natAbs < P512 := Nat.lt_trans (by omega) p512
theorem draw_spec {k : Nat} {p : O} {many : Int} (hp : PenOk k p) (h1 : 1 ≤ many) (h2 : many.natAbs < P512) (hk : k ≤ 1073741824) :
    ∃ r p', sem__law_draw [p, .sh (.int many)] = .ok (.sh (.int r)) [some p', some (.sh (.int many))] ∧ 0 ≤ r ∧ r < many ∧ PenOk (k + 1) p' := by
  obtain ⟨ns, a, d, c, f, rfl, hn, ha, hd, hf, hf2, hc, hck⟩ := hp.ex
  suffices h : RetI (fun o ρ => ∃ r p' x y z, o = .sh (.int r) ∧ ρ = [some p', some (.sh (.int many)), x, y, z] ∧ 0 ≤ r ∧ r < many ∧ PenOk (k + 1) p') (d__law_draw [some (penO (ns.map D.int) a d c f), some (.sh (.int many)), none, none, none]) by
    obtain ⟨_, _, e, r, p', x, y, z, rfl, rfl, h3, h4, h5⟩ := h
    exact ⟨r, p', by rw [sem__law_draw, sem_ret (n := 2) rfl e]; rfl, h3, h4, h5⟩
  unfold d__law_draw
  refine w_seq (ρ' := [some (penO (ns.map D.int) a d (c + 1) f), some (.sh (.int many)), none, none, none]) rfl ?_
  refine w_seqI (fun ρ => ∃ a d f u, ρ = [some (penO (ns.map D.int) a d (c + 1) f), some (.sh (.int many)), u, none, none] ∧ 0 ≤ a ∧ 0 ≤ d ∧ 0 ≤ f ∧ f < 2147483587) ?_ ?_
  · by_cases hz : d = 0 ∧ a < ns.length
    · obtain ⟨rfl, hal⟩ := hz
      obtain ⟨x, hx⟩ : ∃ x, ns[a.toNat]? = some x := ⟨_, List.getElem?_eq_getElem (by omega)⟩
      have hix : itemOf (none, .sh (.lst (ns.map D.int))) (.int a) = some (none, .sh (.int x)) := by
        show (match atI (ns.map D.int) a with
          | some d => some (none, O.sh d)
          | none => none) = _
        have e1 : a = ((a.toNat : Nat) : Int) := by omega
        rw [e1, atI_nat (d := .int x) (by rw [List.getElem?_map, hx]; rfl)]
      refine w_ifT (ρ' := [some (penO (ns.map D.int) a 0 (c + 1) f), some (.sh (.int many)), none, none, none]) (by
        simp only [mAndT, mOrT, mBl, mOpS, mOpN, mBind, mMap, mPure, mSubN, mSub, asSh, mCall, f1, f2, mConsB, mNameB, mNameV, mNameM, lenD, DL.intD, liftB, liftI, toD_sh, toD_lst, List.getElem?_cons_zero, List.getElem?_cons_succ, List.map_cons, List.map_nil, pen_cells, pen_at, pen_digits, pen_count, pen_fold, put_at, put_digits, put_count, put_fold, List.set_cons_zero, List.set_cons_succ, sPut, sBind, sAsg, isSh, Bool.false_or, Bool.true_or, if_true, if_false, Bool.false_eq_true, reduceIte, addD, subI, mCallF, mHas, mConsO, fill, putBack, slotSh_s, slotSh_sh, slotSh_ct, List.tail_cons, List.head?_cons, Option.join_some, eq_int, beq_self_eq_true, List.length_map, decide_eq_true hal]) ?_
      refine w_seq (ρ' := [some (penO (ns.map D.int) a 0 (c + 1) f), some (.sh (.int many)), some (.sh (.int x)), none, none]) (by
        simp only [mAndT, mOrT, mBl, mOpS, mOpN, mBind, mMap, mPure, mSubN, mSub, asSh, mCall, f1, f2, mConsB, mNameB, mNameV, mNameM, lenD, DL.intD, liftB, liftI, toD_sh, toD_lst, List.getElem?_cons_zero, List.getElem?_cons_succ, List.map_cons, List.map_nil, pen_cells, pen_at, pen_digits, pen_count, pen_fold, put_at, put_digits, put_count, put_fold, List.set_cons_zero, List.set_cons_succ, sPut, sBind, sAsg, isSh, Bool.false_or, Bool.true_or, if_true, if_false, Bool.false_eq_true, reduceIte, addD, subI, mCallF, mHas, mConsO, fill, putBack, slotSh_s, slotSh_sh, slotSh_ct, List.tail_cons, List.head?_cons, Option.join_some, hix]) ?_
      refine w_seq (ρ' := [some (penO (ns.map D.int) (a + 1) 0 (c + 1) f), some (.sh (.int many)), some (.sh (.int x)), none, none]) (by rfl) ?_
      by_cases hx : (1000000000000000000 : Int) ≤ x
      · refine w_ifT (ρ' := [some (penO (ns.map D.int) (a + 1) 0 (c + 1) f), some (.sh (.int many)), some (.sh (.int x)), none, none]) (by
          simp only [mAndT, mOrT, mBl, mOpS, mOpN, mBind, mMap, mPure, mSubN, mSub, asSh, mCall, f1, f2, mConsB, mNameB, mNameV, mNameM, lenD, DL.intD, liftB, liftI, toD_sh, toD_lst, List.getElem?_cons_zero, List.getElem?_cons_succ, List.map_cons, List.map_nil, pen_cells, pen_at, pen_digits, pen_count, pen_fold, put_at, put_digits, put_count, put_fold, List.set_cons_zero, List.set_cons_succ, sPut, sBind, sAsg, isSh, Bool.false_or, Bool.true_or, if_true, if_false, Bool.false_eq_true, reduceIte, addD, subI, mCallF, mHas, mConsO, fill, putBack, slotSh_s, slotSh_sh, slotSh_ct, List.tail_cons, List.head?_cons, Option.join_some, powI10, decide_eq_true hx]) ?_
        refine ⟨_, ?_, a + 1, x - 1000000000000000000, f, some (.sh (.int x)), rfl, by omega, by omega, hf, hf2⟩
        simp only [mAndT, mOrT, mBl, mOpS, mOpN, mBind, mMap, mPure, mSubN, mSub, asSh, mCall, f1, f2, mConsB, mNameB, mNameV, mNameM, lenD, DL.intD, liftB, liftI, toD_sh, toD_lst, List.getElem?_cons_zero, List.getElem?_cons_succ, List.map_cons, List.map_nil, pen_cells, pen_at, pen_digits, pen_count, pen_fold, put_at, put_digits, put_count, put_fold, List.set_cons_zero, List.set_cons_succ, sPut, sBind, sAsg, isSh, Bool.false_or, Bool.true_or, if_true, if_false, Bool.false_eq_true, reduceIte, addD, subI, mCallF, mHas, mConsO, fill, putBack, slotSh_s, slotSh_sh, slotSh_ct, List.tail_cons, List.head?_cons, Option.join_some, powI10]
      · refine w_ifF (ρ' := [some (penO (ns.map D.int) (a + 1) 0 (c + 1) f), some (.sh (.int many)), some (.sh (.int x)), none, none]) (by
          simp only [mAndT, mOrT, mBl, mOpS, mOpN, mBind, mMap, mPure, mSubN, mSub, asSh, mCall, f1, f2, mConsB, mNameB, mNameV, mNameM, lenD, DL.intD, liftB, liftI, toD_sh, toD_lst, List.getElem?_cons_zero, List.getElem?_cons_succ, List.map_cons, List.map_nil, pen_cells, pen_at, pen_digits, pen_count, pen_fold, put_at, put_digits, put_count, put_fold, List.set_cons_zero, List.set_cons_succ, sPut, sBind, sAsg, isSh, Bool.false_or, Bool.true_or, if_true, if_false, Bool.false_eq_true, reduceIte, addD, subI, mCallF, mHas, mConsO, fill, putBack, slotSh_s, slotSh_sh, slotSh_ct, List.tail_cons, List.head?_cons, Option.join_some, powI10, decide_eq_false hx]) ?_
        have hm : 0 ≤ (f * 69069 + x) % 2147483587 := Int.emod_nonneg _ (by decide)
        have hm2 : (f * 69069 + x) % 2147483587 < 2147483587 := Int.emod_lt_of_pos _ (by decide)
        refine ⟨_, ?_, a + 1, 0, (f * 69069 + x) % 2147483587, some (.sh (.int x)), rfl, by omega, by omega, hm, hm2⟩
        simp only [mAndT, mOrT, mBl, mOpS, mOpN, mBind, mMap, mPure, mSubN, mSub, asSh, mCall, f1, f2, mConsB, mNameB, mNameV, mNameM, lenD, DL.intD, liftB, liftI, toD_sh, toD_lst, List.getElem?_cons_zero, List.getElem?_cons_succ, List.map_cons, List.map_nil, pen_cells, pen_at, pen_digits, pen_count, pen_fold, put_at, put_digits, put_count, put_fold, List.set_cons_zero, List.set_cons_succ, sPut, sBind, sAsg, isSh, Bool.false_or, Bool.true_or, if_true, if_false, Bool.false_eq_true, reduceIte, addD, subI, mCallF, mHas, mConsO, fill, putBack, slotSh_s, slotSh_sh, slotSh_ct, List.tail_cons, List.head?_cons, Option.join_some, mul_of (lt512 hf (by omega)) (lt512 (show (0 : Int) ≤ 69069 by decide) (by decide)), mod_of (show (0 : Int) < 2147483587 by decide)]
    · refine w_ifF (ρ' := [some (penO (ns.map D.int) a d (c + 1) f), some (.sh (.int many)), none, none, none]) ?_ (nextI ⟨a, d, f, none, rfl, ha, hd, hf, hf2⟩)
      by_cases h0 : d = 0
      · subst h0
        have hz' : ¬ (a < (ns.length : Int)) := fun z => hz ⟨rfl, z⟩
        simp only [mAndT, mOrT, mBl, mOpS, mOpN, mBind, mMap, mPure, mSubN, mSub, asSh, mCall, f1, f2, mConsB, mNameB, mNameV, mNameM, lenD, DL.intD, liftB, liftI, toD_sh, toD_lst, List.getElem?_cons_zero, List.getElem?_cons_succ, List.map_cons, List.map_nil, pen_cells, pen_at, pen_digits, pen_count, pen_fold, put_at, put_digits, put_count, put_fold, List.set_cons_zero, List.set_cons_succ, sPut, sBind, sAsg, isSh, Bool.false_or, Bool.true_or, if_true, if_false, Bool.false_eq_true, reduceIte, addD, subI, mCallF, mHas, mConsO, fill, putBack, slotSh_s, slotSh_sh, slotSh_ct, List.tail_cons, List.head?_cons, Option.join_some, eq_int, beq_self_eq_true, List.length_map, decide_eq_false hz']
      · have e0 : (d == 0) = false := beq_eq_false_iff_ne.mpr h0
        simp only [mAndT, mOrT, mBl, mOpS, mOpN, mBind, mMap, mPure, mSubN, mSub, asSh, mCall, f1, f2, mConsB, mNameB, mNameV, mNameM, lenD, DL.intD, liftB, liftI, toD_sh, toD_lst, List.getElem?_cons_zero, List.getElem?_cons_succ, List.map_cons, List.map_nil, pen_cells, pen_at, pen_digits, pen_count, pen_fold, put_at, put_digits, put_count, put_fold, List.set_cons_zero, List.set_cons_succ, sPut, sBind, sAsg, isSh, Bool.false_or, Bool.true_or, if_true, if_false, Bool.false_eq_true, reduceIte, addD, subI, mCallF, mHas, mConsO, fill, putBack, slotSh_s, slotSh_sh, slotSh_ct, List.tail_cons, List.head?_cons, Option.join_some, eq_int, e0]
  · rintro _ ⟨a, d, f, u, rfl, ha, hd, hf, hf2⟩
    by_cases hz : 0 < d
    · refine w_seqRI (fun _ => False) (.inl ?_) (fun _ h => h.elim)
      refine w_ifT (ρ' := [some (penO (ns.map D.int) a d (c + 1) f), some (.sh (.int many)), u, none, none]) (by
        simp only [mAndT, mOrT, mBl, mOpS, mOpN, mBind, mMap, mPure, mSubN, mSub, asSh, mCall, f1, f2, mConsB, mNameB, mNameV, mNameM, lenD, DL.intD, liftB, liftI, toD_sh, toD_lst, List.getElem?_cons_zero, List.getElem?_cons_succ, List.map_cons, List.map_nil, pen_cells, pen_at, pen_digits, pen_count, pen_fold, put_at, put_digits, put_count, put_fold, List.set_cons_zero, List.set_cons_succ, sPut, sBind, sAsg, isSh, Bool.false_or, Bool.true_or, if_true, if_false, Bool.false_eq_true, reduceIte, addD, subI, mCallF, mHas, mConsO, fill, putBack, slotSh_s, slotSh_sh, slotSh_ct, List.tail_cons, List.head?_cons, Option.join_some, decide_eq_true hz]) ?_
      refine w_seq (ρ' := [some (penO (ns.map D.int) a d (c + 1) f), some (.sh (.int many)), u, some (.sh (.int (d % many))), none]) (by
        simp only [mAndT, mOrT, mBl, mOpS, mOpN, mBind, mMap, mPure, mSubN, mSub, asSh, mCall, f1, f2, mConsB, mNameB, mNameV, mNameM, lenD, DL.intD, liftB, liftI, toD_sh, toD_lst, List.getElem?_cons_zero, List.getElem?_cons_succ, List.map_cons, List.map_nil, pen_cells, pen_at, pen_digits, pen_count, pen_fold, put_at, put_digits, put_count, put_fold, List.set_cons_zero, List.set_cons_succ, sPut, sBind, sAsg, isSh, Bool.false_or, Bool.true_or, if_true, if_false, Bool.false_eq_true, reduceIte, addD, subI, mCallF, mHas, mConsO, fill, putBack, slotSh_s, slotSh_sh, slotSh_ct, List.tail_cons, List.head?_cons, Option.join_some, mod_of (show 0 < many by omega)]) ?_
      refine w_seq (ρ' := [some (penO (ns.map D.int) a (d / many) (c + 1) f), some (.sh (.int many)), u, some (.sh (.int (d % many))), none]) (by
        simp only [mAndT, mOrT, mBl, mOpS, mOpN, mBind, mMap, mPure, mSubN, mSub, asSh, mCall, f1, f2, mConsB, mNameB, mNameV, mNameM, lenD, DL.intD, liftB, liftI, toD_sh, toD_lst, List.getElem?_cons_zero, List.getElem?_cons_succ, List.map_cons, List.map_nil, pen_cells, pen_at, pen_digits, pen_count, pen_fold, put_at, put_digits, put_count, put_fold, List.set_cons_zero, List.set_cons_succ, sPut, sBind, sAsg, isSh, Bool.false_or, Bool.true_or, if_true, if_false, Bool.false_eq_true, reduceIte, addD, subI, mCallF, mHas, mConsO, fill, putBack, slotSh_s, slotSh_sh, slotSh_ct, List.tail_cons, List.head?_cons, Option.join_some, div_of (show 0 < many by omega) h2]) ?_
      refine w_ret (r := .sh (.int (d % many))) rfl ⟨_, _, _, _, _, rfl, rfl, Int.emod_nonneg _ (by omega), Int.emod_lt_of_pos _ (by omega), ⟨ns, a, d / many, c + 1, f, rfl, hn, ha, Int.ediv_nonneg hd (by omega), hf, hf2, by omega, by push_cast; omega⟩⟩
    · refine w_seq (ρ' := [some (penO (ns.map D.int) a d (c + 1) f), some (.sh (.int many)), u, none, none]) (w_ifF (P := fun o => o = .next _) (ρ' := [some (penO (ns.map D.int) a d (c + 1) f), some (.sh (.int many)), u, none, none]) (by
        simp only [mAndT, mOrT, mBl, mOpS, mOpN, mBind, mMap, mPure, mSubN, mSub, asSh, mCall, f1, f2, mConsB, mNameB, mNameV, mNameM, lenD, DL.intD, liftB, liftI, toD_sh, toD_lst, List.getElem?_cons_zero, List.getElem?_cons_succ, List.map_cons, List.map_nil, pen_cells, pen_at, pen_digits, pen_count, pen_fold, put_at, put_digits, put_count, put_fold, List.set_cons_zero, List.set_cons_succ, sPut, sBind, sAsg, isSh, Bool.false_or, Bool.true_or, if_true, if_false, Bool.false_eq_true, reduceIte, addD, subI, mCallF, mHas, mConsO, fill, putBack, slotSh_s, slotSh_sh, slotSh_ct, List.tail_cons, List.head?_cons, Option.join_some, decide_eq_false hz]) rfl) ?_
      refine w_seq (ρ' := [some (penO (ns.map D.int) a d (c + 1) f), some (.sh (.int many)), u, none, some (.sh (.int (f + (c + 1) * 7907 + 43)))]) (by
        simp only [mAndT, mOrT, mBl, mOpS, mOpN, mBind, mMap, mPure, mSubN, mSub, asSh, mCall, f1, f2, mConsB, mNameB, mNameV, mNameM, lenD, DL.intD, liftB, liftI, toD_sh, toD_lst, List.getElem?_cons_zero, List.getElem?_cons_succ, List.map_cons, List.map_nil, pen_cells, pen_at, pen_digits, pen_count, pen_fold, put_at, put_digits, put_count, put_fold, List.set_cons_zero, List.set_cons_succ, sPut, sBind, sAsg, isSh, Bool.false_or, Bool.true_or, if_true, if_false, Bool.false_eq_true, reduceIte, addD, subI, mCallF, mHas, mConsO, fill, putBack, slotSh_s, slotSh_sh, slotSh_ct, List.tail_cons, List.head?_cons, Option.join_some, mul_of (lt512 (show 0 ≤ c + 1 by omega) (by omega)) (lt512 (show (0 : Int) ≤ 7907 by decide) (by decide))]) ?_
      refine w_ret (r := .sh (.int ((f + (c + 1) * 7907 + 43) ^ 17 % 2305843009213693951 / 128 % many))) (ρ' := [some (penO (ns.map D.int) a d (c + 1) f), some (.sh (.int many)), u, none, some (.sh (.int (f + (c + 1) * 7907 + 43)))]) ?_
        ⟨_, _, _, _, _, rfl, rfl, Int.emod_nonneg _ (by omega), Int.emod_lt_of_pos _ (by omega), ⟨ns, a, d, c + 1, f, rfl, hn, ha, hd, hf, hf2, by omega, by push_cast; omega⟩⟩
      simp only [mAndT, mOrT, mBl, mOpS, mOpN, mBind, mMap, mPure, mSubN, mSub, asSh, mCall, f1, f2, mConsB, mNameB, mNameV, mNameM, lenD, DL.intD, liftB, liftI, toD_sh, toD_lst, List.getElem?_cons_zero, List.getElem?_cons_succ, List.map_cons, List.map_nil, pen_cells, pen_at, pen_digits, pen_count, pen_fold, put_at, put_digits, put_count, put_fold, List.set_cons_zero, List.set_cons_succ, sPut, sBind, sAsg, isSh, Bool.false_or, Bool.true_or, if_true, if_false, Bool.false_eq_true, reduceIte, addD, subI, mCallF, mHas, mConsO, fill, putBack, slotSh_s, slotSh_sh, slotSh_ct, List.tail_cons, List.head?_cons, Option.join_some, pow_of (show 0 ≤ f + (c + 1) * 7907 + 43 by omega) (by omega), mod_of (show (0 : Int) < 2305843009213693951 by decide), div_of (show (0 : Int) < 128 by decide) (lt512 (show (0 : Int) ≤ 128 by decide) (by decide)), mod_of (show 0 < many by omega)]

theorem pen_slot {k : Nat} {p : O} (hp : PenOk k p) {ρ : Env} : slotSh (some p :: ρ) 0 = false := by
  obtain ⟨ns, a, d, c, f, rfl, _⟩ := hp.ex
  rfl
theorem PenOk.mono {j k : Nat} {p : O} (hp : PenOk j p) (h : j ≤ k) : PenOk k p := by
  obtain ⟨ns, a, d, c, f, e, h1, h2, h3, h4, h5, h6, h7⟩ := hp.ex
  exact ⟨ns, a, d, c, f, e, h1, h2, h3, h4, h5, h6, by omega⟩
/-- what is walked or drawn from -/
inductive SeqO : O → List D → Prop
  | own (xs : List D) : SeqO (.lst xs) xs
  | lst (xs : List D) : SeqO (.sh (.lst xs)) xs
  | tup (xs : List D) : SeqO (.sh (.tup xs)) xs
theorem pick_spec {k : Nat} {p o : O} {xs : List D} (hp : PenOk k p) (ho : SeqO o xs) (h1 : xs ≠ []) (h2 : xs.length ≤ lim) (hk : k ≤ 1073741824) :
    ∃ d p', sem__law_pick [p, o] = .ok (.sh d) [some p', some o] ∧ d ∈ xs ∧ PenOk (k + 1) p' := by
  have hl : 1 ≤ (xs.length : Int) := by
    cases xs with
    | nil => exact absurd rfl h1
    | cons x xs => simp; omega
  obtain ⟨r, p', e, h3, h4, h5⟩ := draw_spec (many := xs.length) hp hl (Nat.lt_trans (by unfold lim at h2; omega) p512) hk
  have hr : r.toNat < xs.length := by omega
  have hx : xs[r.toNat]? = some xs[r.toNat] := List.getElem?_eq_getElem hr
  refine ⟨xs[r.toNat], p', ?_, List.getElem_mem hr, h5⟩
  have hs : d__law_pick [some p, some o] = .ret (.sh xs[r.toNat]) [some p', some o] := by
    unfold d__law_pick sRet
    cases ho with
    | own => simp only [mAndT, mOrT, mBl, mOpS, mOpN, mBind, mMap, mPure, mSubN, mSub, asSh, mCall, f1, f2, mConsB, mNameB, mNameV, mNameM, lenD, DL.intD, liftB, liftI, toD_sh, toD_lst, List.getElem?_cons_zero, List.getElem?_cons_succ, List.map_cons, List.map_nil, pen_cells, pen_at, pen_digits, pen_count, pen_fold, put_at, put_digits, put_count, put_fold, List.set_cons_zero, List.set_cons_succ, sPut, sBind, sAsg, isSh, Bool.false_or, Bool.true_or, if_true, if_false, Bool.false_eq_true, reduceIte, addD, subI, mCallF, mHas, mConsO, fill, putBack, slotSh_s, slotSh_sh, slotSh_ct, List.tail_cons, List.head?_cons, Option.join_some, mCallF, mHas, mConsO, fill, e, putBack, pen_slot hp, List.tail_cons, List.head?_cons, Option.join_some, item_own h3 hx]
    | lst => simp only [mAndT, mOrT, mBl, mOpS, mOpN, mBind, mMap, mPure, mSubN, mSub, asSh, mCall, f1, f2, mConsB, mNameB, mNameV, mNameM, lenD, DL.intD, liftB, liftI, toD_sh, toD_lst, List.getElem?_cons_zero, List.getElem?_cons_succ, List.map_cons, List.map_nil, pen_cells, pen_at, pen_digits, pen_count, pen_fold, put_at, put_digits, put_count, put_fold, List.set_cons_zero, List.set_cons_succ, sPut, sBind, sAsg, isSh, Bool.false_or, Bool.true_or, if_true, if_false, Bool.false_eq_true, reduceIte, addD, subI, mCallF, mHas, mConsO, fill, putBack, slotSh_s, slotSh_sh, slotSh_ct, List.tail_cons, List.head?_cons, Option.join_some, mCallF, mHas, mConsO, fill, e, putBack, pen_slot hp, List.tail_cons, List.head?_cons, Option.join_some, item_lst h3 hx]
    | tup => simp only [mAndT, mOrT, mBl, mOpS, mOpN, mBind, mMap, mPure, mSubN, mSub, asSh, mCall, f1, f2, mConsB, mNameB, mNameV, mNameM, lenD, DL.intD, liftB, liftI, toD_sh, toD_lst, List.getElem?_cons_zero, List.getElem?_cons_succ, List.map_cons, List.map_nil, pen_cells, pen_at, pen_digits, pen_count, pen_fold, put_at, put_digits, put_count, put_fold, List.set_cons_zero, List.set_cons_succ, sPut, sBind, sAsg, isSh, Bool.false_or, Bool.true_or, if_true, if_false, Bool.false_eq_true, reduceIte, addD, subI, mCallF, mHas, mConsO, fill, putBack, slotSh_s, slotSh_sh, slotSh_ct, List.tail_cons, List.head?_cons, Option.join_some, mCallF, mHas, mConsO, fill, e, putBack, pen_slot hp, List.tail_cons, List.head?_cons, Option.join_some, item_tup h3 hx]
  rw [sem__law_pick, sem_ret (n := 2) rfl hs]
  rfl
theorem pen_spec {ns : List Int} (hl : ns.length ≤ 63) : ∃ p fs, sem__law_pen [.sh (.fz (ns.map D.int))] = .ok p fs ∧ PenOk 0 p := by
  suffices h : RetI (fun o _ => PenOk 0 o) (d__law_pen [some (.sh (.fz (ns.map D.int))), none, none]) by
    obtain ⟨r, ρ, e, q⟩ := h
    exact ⟨r, _, by rw [sem__law_pen, sem_ret (n := 1) rfl e], q⟩
  unfold d__law_pen
  refine w_seq (ρ' := [some (.sh (.fz (ns.map D.int))), some (.sh (.int 0)), none]) rfl ?_
  refine w_seqI (fun ρ => ∃ f u, ρ = [some (.sh (.fz (ns.map D.int))), some (.sh (.int f)), u] ∧ 0 ≤ f ∧ f < 1000000007) ?_ ?_
  · refine w_for (fun _ ρ => ∃ f u, ρ = [some (.sh (.fz (ns.map D.int))), some (.sh (.int f)), u] ∧ 0 ≤ f ∧ f < 1000000007) (ds := ns.map D.int) (ρ' := [some (.sh (.fz (ns.map D.int))), some (.sh (.int 0)), none]) rfl ⟨0, none, rfl, by decide, by decide⟩ ?_ (fun ρ h => nextI h)
    rintro i d ρ hd ⟨f, u, rfl, h1, h2⟩
    rw [List.getElem?_map] at hd
    cases hx : ns[i]? with
    | none => rw [hx] at hd; cases hd
    | some x =>
      rw [hx] at hd
      cases hd
      refine ⟨_, rfl, .inl ⟨[some (.sh (.fz (ns.map D.int))), some (.sh (.int ((f * 47 + x) % 1000000007))), some (.sh (.int x))], .inl ?_, _, _, rfl, Int.emod_nonneg _ (by decide), Int.emod_lt_of_pos _ (by decide)⟩⟩
      simp only [mAndT, mOrT, mBl, mOpS, mOpN, mBind, mMap, mPure, mSubN, mSub, asSh, mCall, f1, f2, mConsB, mNameB, mNameV, mNameM, lenD, DL.intD, liftB, liftI, toD_sh, toD_lst, List.getElem?_cons_zero, List.getElem?_cons_succ, List.map_cons, List.map_nil, pen_cells, pen_at, pen_digits, pen_count, pen_fold, put_at, put_digits, put_count, put_fold, List.set_cons_zero, List.set_cons_succ, sPut, sBind, sAsg, isSh, Bool.false_or, Bool.true_or, if_true, if_false, Bool.false_eq_true, reduceIte, addD, subI, mCallF, mHas, mConsO, fill, putBack, slotSh_s, slotSh_sh, slotSh_ct, List.tail_cons, List.head?_cons, Option.join_some, mul_of (lt512 h1 (by omega)) (lt512 (show (0 : Int) ≤ 47 by decide) (by decide)), mod_of (show (0 : Int) < 1000000007 by decide)]
  · rintro _ ⟨f, u, rfl, h1, h2⟩
    exact w_ret (r := penO (ns.map D.int) 0 0 0 f) rfl ⟨ns, 0, 0, 0, f, rfl, by unfold lim; omega, by decide, by decide, h1, by omega, by decide, by decide⟩
theorem whole_spec {d : D} {b : Bool} (h : (match d with | .int _ => some true | .tup _ => some false | .lst _ => some false | .non => some false | .str _ => some false | .bl _ => some false | _ => none) = some b) : sem__law_is_whole [.sh d] = .ok (.sh (.bl b)) [some (.sh d)] := by
  cases d <;> simp at h <;> subst h <;> rfl
/-- the rows of so many bits -/
def BitRow (n : Nat) (d : D) : Prop := ∃ bs : List Int, d = .tup (bs.map D.int) ∧ bs.length = n ∧ ∀ b ∈ bs, b = 0 ∨ b = 1
end DL

end

section
set_option Elab.async false
set_option linter.all false
set_option maxRecDepth 100000
/-! DL, part S: == and in of data, plain comprehensions. -/
namespace DL
open PySem L2 RZ PyProof.Rows

theorem rng1_ok {n : Nat} {ρ : Env} (h : n ≤ 1000000) : rng1 [.int (n : Int)] ρ = .ok (rngD 0 n) ρ := by
  have h1 : -(2 ^ 62) ≤ (n : Int) := by omega
  have h2 : (n : Int) < 2 ^ 62 := by omega
  unfold rng1
  simp only
  rw [if_pos ⟨h1, h2⟩]
  rfl
theorem rng2_ok {i j : Int} {ρ : Env} (h : 0 ≤ i ∧ i ≤ 1000000 ∧ 0 ≤ j ∧ j ≤ 1000000) : rng2 [.int i, .int j] ρ = .ok (rngD i (j - i).toNat) ρ := by
  have h1 : -(2 ^ 62) ≤ i ∧ i < 2 ^ 62 ∧ -(2 ^ 62) ≤ j ∧ j < 2 ^ 62 := by omega
  unfold rng2
  simp only
  rw [if_pos h1]
  rfl
/-! ### == -/
mutual
theorem eqv_refl : ∀ p : PyData, p.canLay0 = true → PyData.eqv p p = true
  | .none, _ => rfl
  | .bool b, _ => by simp [PyData.eqv]
  | .int i, _ => by simp [PyData.eqv]
  | .str x, _ => by simp [PyData.eqv]
  | .list xs, h => by simp only [PyData.eqv]; exact eqvAll_refl xs (by simpa [PyData.canLay0] using h)
  | .tuple xs, h => by simp only [PyData.eqv]; exact eqvAll_refl xs (by simpa [PyData.canLay0] using h)
  | .dict _, h => by simp [PyData.canLay0] at h
theorem eqvAll_refl : ∀ ps : List PyData, PyData.canLayAll0 ps = true → PyData.eqvAll ps ps = true
  | [], _ => rfl
  | p :: ps, h => by
    have h' : p.canLay0 = true ∧ PyData.canLayAll0 ps = true := by simpa [PyData.canLayAll0] using h
    simp only [PyData.eqvAll, eqv_refl p h'.1, eqvAll_refl ps h'.2, Bool.and_self]
end
/-- data that can be compared -/
def Sh (n : Nat) (d : D) : Prop := ∃ p, toPy d = some p ∧ p.canLay0 = true ∧ p.depth ≤ n
theorem Sh.mono {n m : Nat} {d : D} (h : Sh n d) (hm : n ≤ m) : Sh m d := by
  obtain ⟨p, h1, h2, h3⟩ := h
  exact ⟨p, h1, h2, by omega⟩
theorem sh_int {n : Nat} {i : Int} : Sh n (.int i) := ⟨.int i, rfl, rfl, Nat.zero_le _⟩
theorem sh_bl {n : Nat} {b : Bool} : Sh n (.bl b) := ⟨.bool b, rfl, rfl, Nat.zero_le _⟩
theorem sh_non {n : Nat} : Sh n .non := ⟨.none, rfl, rfl, Nat.zero_le _⟩
theorem sh_str {n : Nat} {x : Str} (h : PyData.strOk x = true) : Sh n (.str x) := ⟨.str x, rfl, by simpa [PyData.canLay0] using h, Nat.zero_le _⟩
theorem sh_all {n : Nat} : ∀ {ds : List D}, (∀ d ∈ ds, Sh n d) → ∃ ps, toPys ds = some ps ∧ PyData.canLayAll0 ps = true ∧ PyData.depthAll ps ≤ n
  | [], _ => ⟨[], rfl, rfl, Nat.zero_le _⟩
  | d :: ds, h => by
    obtain ⟨p, h1, h2, h3⟩ := h d (by simp)
    obtain ⟨ps, h4, h5, h6⟩ := sh_all fun d hd => h d (List.mem_cons_of_mem _ hd)
    exact ⟨p :: ps, by simp only [toPys, h1, h4], by simp only [PyData.canLayAll0, h2, h5, Bool.and_self], by simp only [PyData.depthAll]; omega⟩
theorem sh_tup {n : Nat} {ds : List D} (h : ∀ d ∈ ds, Sh n d) : Sh (n + 1) (.tup ds) := by
  obtain ⟨ps, h1, h2, h3⟩ := sh_all h
  exact ⟨.tuple ps, by simp only [toPy, h1], by simpa [PyData.canLay0] using h2, by simp only [PyData.depth]; omega⟩
theorem sh_lst {n : Nat} {ds : List D} (h : ∀ d ∈ ds, Sh n d) : Sh (n + 1) (.lst ds) := by
  obtain ⟨ps, h1, h2, h3⟩ := sh_all h
  exact ⟨.list ps, by simp only [toPy, h1], by simpa [PyData.canLay0] using h2, by simp only [PyData.depth]; omega⟩
theorem eqD_sh {a b : D} {n : Nat} (ha : Sh n a) (hb : Sh n b) (hn : n ≤ 64) : ∃ p q, toPy a = some p ∧ toPy b = some q ∧ eqD a b = some (PyData.eqv p q) := by
  obtain ⟨p, h1, h2, h3⟩ := ha
  obtain ⟨q, h4, h5, h6⟩ := hb
  refine ⟨p, q, h1, h4, ?_⟩
  unfold eqD
  rw [h1, h4]
  simp only
  have e1 : SeqAt.shaped p = true := by unfold SeqAt.shaped; rw [h2, decide_eq_true (by omega)]; rfl
  have e2 : SeqAt.shaped q = true := by unfold SeqAt.shaped; rw [h5, decide_eq_true (by omega)]; rfl
  rw [e1, e2]
  rfl
theorem eqD_self {a : D} {n : Nat} (ha : Sh n a) (hn : n ≤ 64) : eqD a a = some true := by
  obtain ⟨p, q, h1, h2, h3⟩ := eqD_sh ha ha hn
  rw [h1] at h2
  cases h2
  obtain ⟨p', h4, h5, _⟩ := ha
  rw [h1] at h4
  cases h4
  rw [h3, eqv_refl p h5]
theorem neO_self {a : D} {n : Nat} (ha : Sh n a) (hn : n ≤ 64) : neO a a = some (.sh (.bl false)) := by unfold neO; rw [eqD_self ha hn]; rfl
theorem eqO_self {a : D} {n : Nat} (ha : Sh n a) (hn : n ≤ 64) : eqO a a = some (.sh (.bl true)) := by unfold eqO; rw [eqD_self ha hn]
theorem eqD_nilL {ds : List D} {n : Nat} (h : Sh n (.lst ds)) (hn : n ≤ 64) : eqD (.lst ds) (.lst []) = some ds.isEmpty := by
  obtain ⟨p, q, h1, h2, h3⟩ := eqD_sh h (sh_lst (n := 0) (ds := []) (by simp) |>.mono (m := max n 1) (by omega) |>.mono (m := max n 1) (by omega) |> fun z => by
    obtain ⟨p, h1, h2, h3⟩ := h
    cases n with
    | zero =>
      exfalso
      cases e : toPys ds with
      | none => simp only [toPy, e] at h1; cases h1
      | some ps => simp only [toPy, e] at h1; cases h1; simp only [PyData.depth] at h3; omega
    | succ n => exact (sh_lst (n := 0) (ds := []) (by simp)).mono (by omega)) hn
  rw [h3]
  have e2 : q = .list [] := by
    have : toPy (.lst []) = some (.list []) := rfl
    rw [this] at h2
    cases h2
    rfl
  subst e2
  cases ds with
  | nil =>
    have : toPy (.lst []) = some (.list []) := rfl
    rw [this] at h1
    cases h1
    rfl
  | cons d ds =>
    cases e : toPys (d :: ds) with
    | none => simp only [toPy, e] at h1; cases h1
    | some ps =>
      simp only [toPy, e] at h1
      cases h1
      cases ps with
      | nil =>
        simp only [toPys] at e
        split at e <;> cases e
      | cons p ps => rfl
theorem neO_nilL {ds : List D} {n : Nat} (h : Sh n (.lst ds)) (hn : n ≤ 64) : neO (.lst ds) (.lst []) = some (.sh (.bl (!ds.isEmpty))) := by unfold neO; rw [eqD_nilL h hn]
theorem eqO_nilL {ds : List D} {n : Nat} (h : Sh n (.lst ds)) (hn : n ≤ 64) : eqO (.lst ds) (.lst []) = some (.sh (.bl ds.isEmpty)) := by unfold eqO; rw [eqD_nilL h hn]
theorem neO_int {i j : Int} : neO (.int i) (.int j) = some (.sh (.bl (!(i == j)))) := rfl
theorem sh_ints {ns : List Int} : Sh 1 (.lst (ns.map D.int)) := sh_lst fun d hd => by
  obtain ⟨i, _, rfl⟩ := List.mem_map.mp hd
  exact sh_int
theorem sh_intsT {ns : List Int} : Sh 1 (.tup (ns.map D.int)) := sh_tup fun d hd => by
  obtain ⟨i, _, rfl⟩ := List.mem_map.mp hd
  exact sh_int

/-! ### in -/
theorem fls_ints : ∀ ns : List Int, flsD (ns.map D.int) = some (ns.map V.int)
  | [] => rfl
  | n :: ns => by simp only [List.map_cons, flsD, flD, fls_ints ns]
theorem inV_ints (i : Int) : ∀ ns : List Int, inV (.int i) (ns.map V.int) = decide (i ∈ ns)
  | [] => rfl
  | n :: ns => by
    have ih := inV_ints i ns
    unfold inV at ih ⊢
    rw [List.map_cons, List.any_cons, ih]
    show ((n == i) || _) = _
    by_cases h : n = i
    · subst h; simp
    · have h' : (n == i) = false := beq_eq_false_iff_ne.mpr h
      have h2 : ¬ i = n := fun z => h z.symm
      simp [h', h2]
theorem inT_ints {neg : Bool} {i : Int} {ns : List Int} : inO neg (.int i) (.tup (ns.map D.int)) = some (.sh (.bl (if neg then !decide (i ∈ ns) else decide (i ∈ ns)))) := by
  unfold inO inB
  simp only [flD, fls_ints, inV_ints]
theorem inL_ints {neg : Bool} {i : Int} {ns : List Int} : inO neg (.int i) (.lst (ns.map D.int)) = some (.sh (.bl (if neg then !decide (i ∈ ns) else decide (i ∈ ns)))) := by
  unfold inO inB
  simp only [flD, fls_ints, inV_ints]

/-! ### comprehensions that change nothing -/
theorem m_lcP {α : Type} {vs : List Nat} {src : M (List D)} {bn : Bn} {t : M Bool} {e : M D} {xs : List α} {ρ ρ' : Env} (g : α → D) (c : α → Bool) (f : α → D) (h : src ρ = .ok (xs.map g) ρ') (hl : xs.length ≤ lim)
    (hd : ∀ x ∈ xs, ∃ ρ1 ρ2, bn (g x) (wipeE ρ' vs) = some ρ1 ∧ t ρ1 = .ok (c x) ρ2 ∧ wipeE ρ2 vs = wipeE ρ' vs ∧ (c x = true → ∃ ρ3, e ρ2 = .ok (f x) ρ3 ∧ wipeE ρ3 vs = wipeE ρ' vs)) :
    mLc vs src bn t e ρ = .ok (.lst ((xs.filter c).map f)) (backE ρ' (wipeE ρ' vs) vs) := by
  obtain ⟨acc, ρ2, e1, e2, e3⟩ := m_lc (Q := fun acc ρ2 => acc = (xs.filter c).map f ∧ ρ2 = backE ρ' (wipeE ρ' vs) vs) (fun i acc ρ => ρ = wipeE ρ' vs ∧ acc = ((xs.take i).filter c).map f) h ⟨rfl, by simp⟩ (fun i d acc ρ hi ⟨h1, h2⟩ => by
    subst h1 h2
    rw [List.getElem?_map] at hi
    cases hx : xs[i]? with
    | none => rw [hx] at hi; cases hi
    | some x =>
      rw [hx] at hi
      cases hi
      have hm : x ∈ xs := List.mem_iff_getElem?.mpr ⟨i, hx⟩
      have hil : i < xs.length := (List.getElem?_eq_some_iff.mp hx).1
      obtain ⟨ρ1, ρ2, hb, ht, hw, he⟩ := hd x hm
      refine ⟨ρ1, c x, ρ2, hb, ht, fun hc => ⟨hw, ?_⟩, fun hc => ⟨?_, ?_⟩⟩
      · rw [List.take_add_one, hx, List.filter_append]
        simp [hc]
      · rw [List.length_map]
        have := List.length_filter_le c (xs.take i)
        rw [List.length_take] at this
        omega
      · obtain ⟨ρ3, h3, h4⟩ := he hc
        refine ⟨f x, ρ3, h3, h4, ?_⟩
        rw [List.take_add_one, hx, List.filter_append]
        simp [hc]) (fun acc ρ2 ⟨h1, h2⟩ => ⟨by rw [h2, List.length_map, List.take_length], by rw [h1]⟩)
  rw [e1, e2, e3]
theorem m_lcR {α : Type} {vs : List Nat} {src : M (List D)} {bn : Bn} {t : M Bool} {e : M D} {xs : List α} {ρ ρ' : Env} (g : α → D) (c : α → Bool) (f : α → D) (h : src ρ = .ok (xs.map g) ρ') (hb : backE ρ' (wipeE ρ' vs) vs = ρ') (hl : xs.length ≤ lim)
    (hd : ∀ x ∈ xs, ∃ ρ1 ρ2, bn (g x) (wipeE ρ' vs) = some ρ1 ∧ t ρ1 = .ok (c x) ρ2 ∧ wipeE ρ2 vs = wipeE ρ' vs ∧ (c x = true → ∃ ρ3, e ρ2 = .ok (f x) ρ3 ∧ wipeE ρ3 vs = wipeE ρ' vs)) :
    mLc vs src bn t e ρ = .ok (.lst ((xs.filter c).map f)) ρ' := by
  have q := m_lcP (ρ' := ρ') g c f h hl hd
  rw [hb] at q
  exact q
/-- .. all of them -/
theorem m_lcA {α : Type} {vs : List Nat} {src : M (List D)} {bn : Bn} {e : M D} {xs : List α} {ρ ρ' : Env} (g : α → D) (f : α → D) (h : src ρ = .ok (xs.map g) ρ') (hb : backE ρ' (wipeE ρ' vs) vs = ρ') (hl : xs.length ≤ lim)
    (hd : ∀ x ∈ xs, ∃ ρ1, bn (g x) (wipeE ρ' vs) = some ρ1 ∧ ∃ ρ3, e ρ1 = .ok (f x) ρ3 ∧ wipeE ρ3 vs = wipeE ρ' vs ∧ wipeE ρ1 vs = wipeE ρ' vs) :
    mLc vs src bn (mPure true) e ρ = .ok (.lst (xs.map f)) ρ' := by
  have q := m_lcR (t := mPure true) g (fun _ => true) f h hb hl fun x hx => by
    obtain ⟨ρ1, h1, ρ3, h2, h3, h4⟩ := hd x hx
    exact ⟨ρ1, ρ1, h1, rfl, h4, fun _ => ⟨ρ3, h2, h3⟩⟩
  have e : xs.filter (fun _ => true) = xs := List.filter_eq_self.mpr fun _ _ => rfl
  rw [e] at q
  exact q
end DL

end

section
set_option Elab.async false
set_option linter.all false
set_option maxRecDepth 100000
/-! EX, part A: defs where no repr is under way (the guards are known), and that may let an exception out. -/
namespace DL
open PySem L2 RZ PyProof.Rows

/-- room, and nothing is being shown -/
structure Rg (k : Nat) (A : Around) : Prop where
  r : Room k A
  g : A.guards = some []
theorem Rg.mono {j k : Nat} {A : Around} (h : Rg k A) (l : j ≤ k) : Rg j A := ⟨h.r.mono l, h.g⟩
theorem Rg.deeper {k : Nat} {A : Around} (h : Rg (k + 1) A) (env : PySem.Env) : Rg k (A.deeper env) := ⟨h.r.deeper env, h.g⟩
theorem make_guards {A : Around} {C : Addr} {us : List Value} {kw : List (Str × Value)} : (A.under (.builtin "type.__call__" ⟨.ref C :: us, kw⟩)).guards = A.guards := by
  have h : Code.guards (.builtin "type.__call__" ⟨.ref C :: us, kw⟩) = [] := by
    have e : Code.isGuard (.builtin "type.__call__" ⟨.ref C :: us, kw⟩) = false := by
      show guardIds.contains "type.__call__" = false
      decide
    simp [Code.guards, e]
  show pushGuards (Code.guards (.builtin "type.__call__" ⟨.ref C :: us, kw⟩)) A.guards = _
  rw [h]
  rfl
theorem Rg.make {k : Nat} {A : Around} (h : Rg (k + 1) A) (C : Addr) (us : List Value) (kw : List (Str × Value)) : Rg k (A.under (.builtin "type.__call__" ⟨.ref C :: us, kw⟩)) := ⟨h.r.make C us kw, make_guards.trans h.g⟩

/-- a def's promise, where no repr is under way -/
structure FnG (P : Program) (w : World) (K : PySem.W.Frag) (mg : Str → Option Value) (base : Heap) (CX : CXT) (k : Nat) (f : Addr) (fd : FuncData) (ps : List Str) (sp : Sp) : Prop where
  len : ∀ vs H Q E, sp vs H Q E → vs.length = ps.length
  run : ∀ (A : Around) (outer : List PySem.Env) (s : Shared) (H : Hp) (args : PySem.Args) (us : List Value) (vs : List V) (Q : VK) (E : XK), Rg k A → Env0 P w K mg base A outer s H → BindsTo s fd args (ps.zip us) → Vals vs us → sp vs H Q E →
    codeAny (model P w) A (.call (.ref f) args) (CR CX outer P w H s Q E) s
theorem FnG.mono {P : Program} {w : World} {K : PySem.W.Frag} {mg : Str → Option Value} {base : Heap} {CX : CXT} {j k : Nat} {f : Addr} {fd : FuncData} {ps : List Str} {sp : Sp} (F : FnG P w K mg base CX j f fd ps sp) (h : j ≤ k) :
    FnG P w K mg base CX k f fd ps sp := ⟨F.len, fun A outer s H args us vs Q E hr => F.run A outer s H args us vs Q E (hr.mono h)⟩
theorem FnG.imp {P : Program} {w : World} {K : PySem.W.Frag} {mg : Str → Option Value} {base : Heap} {CX : CXT} {k : Nat} {f : Addr} {fd : FuncData} {ps : List Str} {sp sp' : Sp} (F : FnG P w K mg base CX k f fd ps sp)
    (h : ∀ vs H Q E, sp' vs H Q E → sp vs H Q E) : FnG P w K mg base CX k f fd ps sp' :=
  ⟨fun vs H Q E q => F.len vs H Q E (h _ _ _ _ q), fun A outer s H args us vs Q E hr he hb hv hs => F.run A outer s H args us vs Q E hr he hb hv (h _ _ _ _ hs)⟩

/-- a def by its body -/
theorem fn_ofG {CX : CXT} {P : Program} {w : World} {K : PySem.W.Frag} {mg : Str → Option Value} {base : Heap} {k : Nat} {f : Addr} {name qual : Str} {params : Arguments} {body : List Stmt} {scope : Scope} {dV kV doc pm cdv ct oc : Value} {an od : Option Addr}
    {osl : Array (Option Value)} {N ps : List Str} {sp : Sp} (lk : K.lookup f = some ⟨oc, od, .func (PySem.W.fnOf name qual params body scope dV kV doc pm an cdv ct), osl⟩) (hcd : PySem.W.codeIn K cdv qual = true) (S : FnScope N ps scope)
    (len : ∀ vs H Q E, sp vs H Q E → vs.length = ps.length)
    (hbody : ∀ (A : Around) (outer : List PySem.Env) (s : Shared) (H : Hp) (vs : List V) (Q : VK) (E : XK), Rg k (A.deeper (envOfC qual scope s.heap.objs.size f cdv)) → sp vs H Q E →
      ∃ t, PSs (cxOf CX P w K mg base N qual scope f cdv A outer s H E) body t ∧ t { nx := fun _ H' => Q .non H', rt := Q } (L2.start N vs) H) :
    FnG P w K mg base CX (k + 1) f (PySem.W.fnOf name qual params body scope dV kV doc pm an cdv ct) ps sp := by
  refine ⟨len, fun A outer s H args us vs Q E hr e0 hb r hsp => ?_⟩
  have hl := len _ _ _ _ hsp
  have KX : K.In s.heap := e0.mod.kin.keeps fun b o e => (e0.bs b o e).1
  have lim : s.heap.NoLimit := e0.mod.nolimit.keeps fun b o e => (e0.bs b o e).1
  have hkind : ∀ y ∈ ps.zip us, scope.names.lookup y.1 = some .local ∨ (scope.names.lookup y.1 = some .cell ∧ ((cellsFrom (s.heap.objs.size + 1) scope.names []).lookup y.1).isSome = true) := fun ⟨n, v⟩ hy => by
    rcases S.par n (List.of_mem_zip hy).1 with q | q
    · exact .inl q
    · exact .inr ⟨q, PySem.W.cellsFrom_some _ _ _ (.inl q)⟩
  refine codeAny_call_function hr.r.depth (KX _ _ lk) rfl S.co S.gen rfl (PySem.W.codeRec_of KX hcd) (hb _ _ _ _ ?_)
  refine wpAny_newFunctionEnv_cells S.kind hkind fun env he s1 x => ?_
  subst he
  refine ⟨lim.keeps x.toInCall.keep, codeAny_func ?_⟩
  obtain ⟨t, ht, hq⟩ := hbody A outer s H vs Q E (hr.deeper _) hsp
  have I : Inv (cxOf CX P w K mg base N qual scope f cdv A outer s H E) [] (L2.start N vs) H s1 := inv_start S hr.r.hd e0 hl r x
  refine wpAny_mono (ht.run [] s1 (L2.start N vs) H _ I hq) (fun fl s' hs => ?_) fun e s' hs => hs
  have fin : ∀ {σ' : L2.St} {H' : Hp} {v : V} {u : Value}, Inv (cxOf CX P w K mg base N qual scope f cdv A outer s H E) [] σ' H' s' → RelV v u → Q v H' → CE outer P w H s Q u s' :=
    fun {σ' H' v u} J rv q => ⟨v, H', J.os, J.bare, J.base, J.hok, rv, q⟩
  cases fl with
  | ret u =>
    obtain ⟨v, σ', H', J, rv, q⟩ := hs
    exact fin J rv q
  | next =>
    obtain ⟨σ', H', J, q⟩ := hs
    exact fin (v := V.non) (u := Value.none) J rfl q
  | brk =>
    obtain ⟨_, _, _, q⟩ := hs
    exact False.elim q
  | cont =>
    obtain ⟨_, _, _, q⟩ := hs
    exact False.elim q

section
variable {P : Program} {w : World} {K : PySem.W.Frag} {mg : Str → Option Value} {base : Heap}
/-- no exception leaves the def -/
theorem okG {x qual : Str} {st : Stmt} {f : Addr} {fd : FuncData} {N ps : List Str} {k : Nat} {sp : Sp} (F : Fun K x qual st f fd) (S : FnScope N ps (defScope st)) (len : ∀ vs H Q E, sp vs H Q E → vs.length = ps.length)
    (hbody : ∀ (cdv : Value) (A : Around) (outer : List PySem.Env) (s : Shared) (H : Hp) (vs : List V) (Q : VK) (E : XK), Rg k (A.deeper (envOfC qual (defScope st) s.heap.objs.size f cdv)) → sp vs H Q E →
      ∃ t, PSs (cxOf CX0 P w K mg base N qual (defScope st) f cdv A outer s H E).nox (defBody st) t ∧ t { nx := fun _ H' => Q .non H', rt := Q } (L2.start N vs) H) : FnG P w K mg base CX0 (k + 1) f fd ps sp := by
  obtain ⟨oc, od, kV, doc, pm, an, cdv, ct, osl, rfl, lk, hcd⟩ := F.ex
  refine fn_ofG lk hcd S len fun A outer s H vs Q E hr hsp => ?_
  obtain ⟨t, h, q⟩ := hbody cdv A outer s H vs Q E hr hsp
  exact ⟨t, h.nox, q⟩
/-- an exception may leave it -/
theorem okGX {x qual : Str} {st : Stmt} {f : Addr} {fd : FuncData} {N ps : List Str} {k : Nat} {sp : Sp} (F : Fun K x qual st f fd) (S : FnScope N ps (defScope st)) (len : ∀ vs H Q E, sp vs H Q E → vs.length = ps.length)
    (hbody : ∀ (cdv : Value) (A : Around) (outer : List PySem.Env) (s : Shared) (H : Hp) (vs : List V) (Q : VK) (E : XK), Rg k (A.deeper (envOfC qual (defScope st) s.heap.objs.size f cdv)) → sp vs H Q E →
      ∃ t, PSs (cxOf (L2.CX P w) P w K mg base N qual (defScope st) f cdv A outer s H E) (defBody st) t ∧ t { nx := fun _ H' => Q .non H', rt := Q } (L2.start N vs) H) : FnG P w K mg base (L2.CX P w) (k + 1) f fd ps sp := by
  obtain ⟨oc, od, kV, doc, pm, an, cdv, ct, osl, rfl, lk, hcd⟩ := F.ex
  exact fn_ofG lk hcd S len fun A outer s H vs Q E hr hsp => hbody cdv A outer s H vs Q E hr hsp
end

section
variable {X : Cx} {CX : CXT} {k : Nat} {f C : Addr} {fd : FuncData} {ps : List Str} {sp : Sp} {dvs : List V} {ds : List Value} {E : XK} {x m : Str} {p pos apos : Pos} {e o : Expr} {es : List Expr} {ta : TE} {t : TA}
/-- the callee runs; what it raises reaches what is wanted at these slots -/
theorem run_fnG {pins : List (Addr × Obj)} {σ : L2.St} {H : Hp} {s : Shared} {Q : VK} {us : List Value} {vs : List V} {E : L2.St → XK} (F : FnG X.prog X.w X.K X.mg X.base CX k f fd ps sp) (hr : Rg k X.A) (hb : Binds X.K fd ps []) (hx : PassesAt CX X σ (E σ))
    (I : Inv X pins σ H s) (r : Vals vs us) (h : sp vs H Q (E σ)) : wpAny (model X.prog X.w) X.A (call (.ref f) us) (EP X pins σ Q) X.xe s := by
  have hl : us.length = ps.length := by rw [← r.length]; exact F.len _ _ _ _ h
  have b := hb s us I.kIn (by rw [List.append_nil]; exact hl)
  rw [List.append_nil] at b
  refine wpAny_call (codeAny_mono (F.run X.A X.stack s H ⟨us, []⟩ us vs Q (E σ) hr I.env0 b r h) fun r s' hq => ?_)
  cases r with
  | error e => exact hx pins H s e s' I hq
  | ok fl =>
    cases fl with
    | ret u => exact I.after hq
    | next => exact False.elim hq
    | brk => exact False.elim hq
    | cont => exact False.elim hq
theorem pe_callG {E : L2.St → XK} (F : FnG X.prog X.w X.K X.mg X.base CX k f fd ps sp) (hr : Rg k X.A) (hg : Gl X x) (hm : X.mg x = some (.ref f)) (hk : PySem.W.keepIn X.K (.ref f) = true) (hb : Binds X.K fd ps []) (hx : ∀ σ, PassesAt CX X σ (E σ))
    (ha : PA X (e :: es) t) (hdb : (x == ("__debug__" : Str)) = false := by decide) (he : starEach (e :: es) X.env = (false, eval e X.env) :: starEach es X.env := by rfl) (hpl : (backTo pos (starEach es X.env)).any (·.1) = false := by rfl) :
    PE X (.Call (.Name x p) (e :: es) [] pos) (tCallS sp E t) := by
  refine ⟨fun pins s σ H Q I h => ?_⟩
  refine wpAny_Call_Name_kw (ld_glob I hg hm ?_ hdb)
  refine PySem.W.callWith_K (h₀ := X.base) I.ok.mod.kin hk (thn (ha.run pos pins s σ H _ I h) fun us s1 ⟨vs, H1, I1, r, q⟩ => ⟨I1.kIn, ?_⟩) he hpl
  exact run_fnG F hr hb (hx σ) I1 r q
theorem pe_callG0 {E : L2.St → XK} (F : FnG X.prog X.w X.K X.mg X.base CX k f fd ps sp) (hr : Rg k X.A) (hg : Gl X x) (hm : X.mg x = some (.ref f)) (hk : PySem.W.keepIn X.K (.ref f) = true) (hb : Binds X.K fd ps []) (hx : ∀ σ, PassesAt CX X σ (E σ))
    (hdb : (x == ("__debug__" : Str)) = false := by decide) : PE X (.Call (.Name x p) [] [] pos) (tCallS sp E tNil) := by
  refine ⟨fun pins s σ H Q I h => ?_⟩
  refine wpAny_Call_Name_kw (ld_glob I hg hm ?_ hdb)
  exact PySem.W.callWith_K0 I.kIn hk (run_fnG (us := []) F hr hb (hx σ) I .nil h)
/-- o.m(e, ..) of an instance of the class at C -/
def tMethS (C : Addr) (m : Str) (sp : Sp) (E : L2.St → XK) (ta : TE) (t : TA) : TE := fun σ H Q => ta σ H fun x H1 => ∃ a dx fs, x = .ref a ∧ H1 a = some (.ins C dx fs) ∧ fs.lookup m = none ∧
  t σ H1 fun vs H2 => sp (x :: vs) H2 Q (E σ)
theorem pe_methG {E : L2.St → XK} {pl : PySem.Sem Bool} (he : PE X o ta) (c : Cls X.K C) (hm : Meth X.K C m f) (F : FnG X.prog X.w X.K X.mg X.base CX k f fd ps sp) (hr : Rg k X.A) (hb : Binds X.K fd ps []) (hx : ∀ σ, PassesAt CX X σ (E σ)) (ha : PA X (e :: es) t)
    (hst : starEach (e :: es) X.env = (false, eval e X.env) :: starEach es X.env := by rfl) (hpl : (backTo pos (starEach es X.env)).any (·.1) = false := by rfl)
    (ht : eval (.Call (.Attribute o m apos) (e :: es) [] pos) X.env = (do
      let ov ← eval o X.env
      standAt apos.atName
      let (f, first) ← holding [ov] (getMethod ov m pl)
      callWith pos f first (backTo pos (starEach (e :: es) X.env)) (backToKw pos (keywordEach [] X.env))) := by rfl) :
    PE X (.Call (.Attribute o m apos) (e :: es) [] pos) (tMethS C m sp E ta t) := by
  refine ⟨fun pins s σ H Q I h => ?_⟩
  refine PySem.W.methodCall_KW (pl := pl) (thn (he.run pins s σ H _ I h) fun u s1 ⟨x, H1, I1, rx, a, dx, fs, ex, ea, l, q⟩ => ?_) ht
  subst ex
  obtain rfl : u = Value.ref a := rx
  refine getmeth_ok I1 ea c hm l ?_
  refine PySem.W.callWith_K (first := [.ref a]) (h₀ := X.base) I.ok.mod.kin hm.kp (thn (ha.run pos pins s1 σ H1 _ I1 q) fun us s2 ⟨vs, H2, I2, r, q2⟩ => ⟨I2.kIn, ?_⟩) hst hpl
  exact run_fnG (us := .ref a :: us) (vs := .ref a :: vs) F hr hb (hx σ) I2 (.cons rfl r) q2
theorem pe_methG0 {E : L2.St → XK} {pl : PySem.Sem Bool} (he : PE X o ta) (c : Cls X.K C) (hm : Meth X.K C m f) (F : FnG X.prog X.w X.K X.mg X.base CX k f fd ps sp) (hr : Rg k X.A) (hb : Binds X.K fd ps []) (hx : ∀ σ, PassesAt CX X σ (E σ))
    (ht : eval (.Call (.Attribute o m apos) [] [] pos) X.env = (do
      let ov ← eval o X.env
      standAt apos.atName
      let (f, first) ← holding [ov] (getMethod ov m pl)
      callWith pos f first (backTo pos (starEach [] X.env)) (backToKw pos (keywordEach [] X.env))) := by rfl) :
    PE X (.Call (.Attribute o m apos) [] [] pos) (tMethS C m sp E ta tNil) := by
  refine ⟨fun pins s σ H Q I h => ?_⟩
  refine PySem.W.methodCall_KW (pl := pl) (thn (he.run pins s σ H _ I h) fun u s1 ⟨x, H1, I1, rx, a, dx, fs, ex, ea, l, q⟩ => ?_) ht
  subst ex
  obtain rfl : u = Value.ref a := rx
  refine getmeth_ok I1 ea c hm l ?_
  exact PySem.W.callWith_K0 (first := [.ref a]) I1.kIn hm.kp (run_fnG (us := [.ref a]) (vs := [.ref a]) F hr hb (hx σ) I1 (.cons rfl .nil) q)
/-- C(..): a new instance and its dict, then __init__; nothing is let out -/
theorem run_makeG {pins : List (Addr × Obj)} {σ : L2.St} {H : Hp} {s : Shared} {Q : VK} {us : List Value} {vs : List V} {E : L2.St → XK} (M : Mk X.K C f) (F : FnG X.prog X.w X.K X.mg X.base CX k f fd ps sp) (hr : Rg (k + 1) X.A) (hb : Binds X.K fd ps [])
    (hx : ∀ σ, PassesAt CX X σ (E σ)) (I : Inv X pins σ H s) (r : Vals vs us)
    (h : ∀ x dx, H x = none → H dx = none → dx ≠ x → sp (.ref x :: vs) (upd (upd H dx (.own x)) x (.ins C dx [])) (fun v H2 => v = .non ∧ Q (.ref x) H2) (E σ)) :
    wpAny (model X.prog X.w) X.A (call (.ref C) us) (EP X pins σ Q) X.xe s := by
  have hq := h (s.heap.objs.size + 1) s.heap.objs.size (I.hok.fresh (Nat.le_succ _)) (I.hok.fresh (Nat.le_refl _)) (Nat.ne_of_lt (Nat.lt_succ_self _))
  have I2 := Inv.made (C := C) I
  have r2 : Vals (V.ref (s.heap.objs.size + 1) :: vs) (Value.ref (s.heap.objs.size + 1) :: us) := .cons rfl r
  have hl : (Value.ref (s.heap.objs.size + 1) :: us).length = ps.length := by
    rw [← r2.length]
    exact F.len _ _ _ _ hq
  have b := hb _ (Value.ref (s.heap.objs.size + 1) :: us) I2.kIn (by rw [List.append_nil]; exact hl)
  rw [List.append_nil] at b
  refine wpAny_call (make_map (f := f) I.kIn M.makes M.init (beq_iff_eq.mp M.fn) (codeAny_mono (F.run _ X.stack _ _ ⟨Value.ref (s.heap.objs.size + 1) :: us, []⟩ (Value.ref (s.heap.objs.size + 1) :: us) _ _ (E σ) (hr.make C us [])
    (I2.env0.make C us []) b r2 hq) fun r s' hq' => ?_))
  cases r with
  | error e => exact hx σ pins _ _ e s' I2 hq'
  | ok fl =>
    cases fl with
    | ret u =>
      obtain ⟨v, H', I3, rv, ev, q3⟩ := I2.after hq'
      subst ev
      exact ⟨rv, ⟨V.ref (s.heap.objs.size + 1), H', I3, rfl, q3⟩⟩
    | next => exact False.elim hq'
    | brk => exact False.elim hq'
    | cont => exact False.elim hq'
def tMakeS (C : Addr) (sp : Sp) (E : L2.St → XK) (t : TA) : TE := fun σ H Q => t σ H fun vs H1 => ∀ x dx, H1 x = none → H1 dx = none → dx ≠ x →
  sp (.ref x :: vs) (upd (upd H1 dx (.own x)) x (.ins C dx [])) (fun v H2 => v = .non ∧ Q (.ref x) H2) (E σ)
theorem pe_makeG {E : L2.St → XK} (M : Mk X.K C f) (F : FnG X.prog X.w X.K X.mg X.base CX k f fd ps sp) (hr : Rg (k + 1) X.A) (hg : Gl X x) (hm : X.mg x = some (.ref C)) (hb : Binds X.K fd ps []) (hx : ∀ σ, PassesAt CX X σ (E σ))
    (ha : PA X (e :: es) t) (hdb : (x == ("__debug__" : Str)) = false := by decide) (he : starEach (e :: es) X.env = (false, eval e X.env) :: starEach es X.env := by rfl) (hpl : (backTo pos (starEach es X.env)).any (·.1) = false := by rfl) :
    PE X (.Call (.Name x p) (e :: es) [] pos) (tMakeS C sp E t) := by
  refine ⟨fun pins s σ H Q I h => ?_⟩
  refine wpAny_Call_Name_kw (ld_glob I hg hm ?_ hdb)
  refine PySem.W.callWith_K (h₀ := X.base) I.ok.mod.kin M.kp (thn (ha.run pos pins s σ H _ I h) fun us s1 ⟨vs, H1, I1, r, q⟩ => ⟨I1.kIn, ?_⟩) he hpl
  exact run_makeG M F hr hb hx I1 r q
theorem pe_makeG0 {E : L2.St → XK} (M : Mk X.K C f) (F : FnG X.prog X.w X.K X.mg X.base CX k f fd ps sp) (hr : Rg (k + 1) X.A) (hg : Gl X x) (hm : X.mg x = some (.ref C)) (hb : Binds X.K fd ps []) (hx : ∀ σ, PassesAt CX X σ (E σ))
    (hdb : (x == ("__debug__" : Str)) = false := by decide) : PE X (.Call (.Name x p) [] [] pos) (tMakeS C sp E tNil) := by
  refine ⟨fun pins s σ H Q I h => ?_⟩
  refine wpAny_Call_Name_kw (ld_glob I hg hm ?_ hdb)
  exact PySem.W.callWith_K0 I.kIn M.kp (run_makeG (us := []) M F hr hb hx I .nil h)
end
theorem passAt0 {X : Cx} {E : XK} {σ : L2.St} : PassesAt CX0 X σ E := fun _ _ _ _ _ _ h => h.elim

/-- the head -/
theorem law_callG {P : Program} {w : World} {K : PySem.W.Frag} {mg mb : Str → Option Value} {CX : CXT} {k : Nat} {fa a : Addr} {fd : FuncData} {x : Str} {sp : Sp} {s₁ : Shared} {vs : List Value} {ns : List Int}
    (KX : K.In s₁.heap) (hns : s₁.heap.Ns mainGlobals mg) (hb : s₁.heap.Ns builtinsNs mb) (hbb : ∀ x : Str, x ≠ "__name__" → mb x = bootBuiltins x) (hlim : s₁.heap.NoLimit) (hg : s₁.gens = #[])
    (ha : s₁.heap.get? a = some { cls := .type "list", data := .seq vs.toArray }) (hi : IntsAre vs ns) (hl : ns.length ≤ sizeLine) (hr : Rg k callerA)
    (F : ∀ base : Heap, K.In base → base.Ns mainGlobals mg → FnG P w K mg base CX k fa fd [x] sp) (hbind : ∀ (s : Shared) (u : Value), BindsTo s fd ⟨[u], []⟩ [(x, u)])
    (hsp : ∀ H : Hp, Only H → SqL K H a (ns.map V.int) → sp [.ref a] H (fun v _ => v = .bl true) fun _ _ _ => False)
    (hCX : ∀ H e s', CX [] H s₁ (fun _ _ _ => False) e s' → False) :
    codeAny (model P w) callerA (.call (.ref fa) ⟨[.ref a], []⟩) (fun r s' => r = .ok (.ret (.bool true)) ∧ OldK s₁.heap s'.heap ∧ s'.os = s₁.os ∧ AllBare s'.gens) s₁ := by
  have rv := vals_ints hi
  have lenV := hi.length
  have core : ∀ H : Hp, Only H → SqL K H a (ns.map V.int) → HOk P w H s₁.heap → (∀ b, H b ≠ none → b = a) → (H a ≠ none → K.lookup a = none) →
      codeAny (model P w) callerA (.call (.ref fa) ⟨[.ref a], []⟩) (fun r s' => r = .ok (.ret (.bool true)) ∧ OldK s₁.heap s'.heap ∧ s'.os = s₁.os ∧ AllBare s'.gens) s₁ := by
    intro H hO hS hok hA hK
    have base_of : ∀ {b : Addr} {o : Obj}, s₁.heap.get? b = some o → H b = none → (hidT s₁.heap H).get? b = some o := fun e n => hidT_get e n
    have noA : ∀ {b : Addr} {o : Obj} {es : Array DictEntry} {ep : Nat}, s₁.heap.get? b = some o → o.data = .dict es ep → H b = none := fun {b o es ep} e d => by
      cases q : H b with
      | none => rfl
      | some u =>
        have e' : b = a := hA b (by rw [q]; simp)
        subst e'
        rw [ha] at e; cases e
        have d' : Data.seq vs.toArray _ = Data.dict es ep := d
        cases d'
    have nsK : ∀ {b : Addr} {m : Str → Option Value}, s₁.heap.Ns b m → (hidT s₁.heap H).Ns b m := fun {b m} ⟨o, es, ep, e, d, r⟩ => ⟨o, es, ep, base_of e (noA e d), d, r⟩
    have hKb : K.In (hidT s₁.heap H) := fun b o e => base_of (KX b o e) (by
      cases q : H b with
      | none => rfl
      | some u =>
        have e' : b = a := hA b (by rw [q]; simp)
        subst e'
        rw [hK (by rw [q]; simp)] at e; cases e)
    have hM : Mod K mg (hidT s₁.heap H) := ⟨hKb, nsK hns, ⟨mb, nsK hb, hbb⟩, let ⟨mc, h1, h2⟩ := hlim; ⟨mc, nsK h1, h2⟩⟩
    have e0 : Env0 P w K mg (hidT s₁.heap H) callerA [] s₁ H := ⟨rfl, hM, fun b o e => of_hidT e, Nat.le_of_eq (hidT_size _ _), trivial, fun b hb => absurd (show b ∈ ([] : List Addr) from hb) (by simp), hok, .of_eq hg⟩
    refine codeAny_mono ((F _ hKb (nsK hns)).run callerA [] s₁ H ⟨[.ref a], []⟩ [.ref a] [.ref a] _ _ hr e0 (hbind s₁ (.ref a)) (.cons rfl .nil) (hsp H hO hS)) fun r s' h => ?_
    cases r with
    | error e => exact (hCX H e s' h).elim
    | ok fl =>
      cases fl with
      | next => exact False.elim h
      | brk => exact False.elim h
      | cont => exact False.elim h
      | ret u =>
        obtain ⟨v, H', os, bare, un, hok', r', q⟩ := h
        have q' : v = .bl true := q
        subst q'
        obtain rfl : u = Value.bool true := r'
        refine ⟨rfl, OldK.of_keep fun b o e => ?_, os, bare⟩
        cases q : H b with
        | none => exact un.keep b o e q (by intro z; exact absurd (show b ∈ ([] : List Addr) from z) (by simp)) (by simp)
        | some u =>
          rcases hO b with z | ⟨ob, xs, z⟩
          · rw [q] at z; cases z
          · have z2 := un.frzs b ob _ z
            obtain ⟨e1, _⟩ := hok b _ z
            obtain ⟨e2, _⟩ := hok' b _ z2
            rw [e] at e1; cases e1
            exact e2
  cases hk : K.lookup a with
  | some o =>
    have e := KX a o hk
    rw [ha] at e
    cases e
    refine core (fun _ => none) (fun _ => .inl rfl) (.inr ⟨_, vs.toArray, _, hk, rfl, rfl, rfl, by rw [List.size_toArray, lenV]; exact hl, by simpa using rv⟩) (fun b u z => by have z' : (none : Option HO) = some u := z; cases z') (fun b z => absurd rfl z) fun z => absurd rfl z
  | none =>
    refine core (fun b => if b = a then some (.frz { cls := .type "list", data := .seq vs.toArray } (.lst (ns.map V.int))) else none) (fun b => ?_) (.inl (.inr ⟨{ cls := .type "list", data := .seq vs.toArray }, if_pos rfl⟩)) (fun b u z => ?_) (fun b z => ?_) fun _ => hk
    · by_cases hb : b = a
      · exact .inr ⟨_, _, if_pos hb⟩
      · exact .inl (if_neg hb)
    · by_cases hb : b = a
      · have z' := (if_pos hb).symm.trans z
        cases z'
        subst hb
        exact ⟨ha, by rw [List.length_map]; exact hl, vs, _, rv, ha⟩
      · have z' := (if_neg hb).symm.trans z
        cases z'
    · by_cases hb : b = a
      · exact hb
      · exact absurd (if_neg hb) z
/-- the goal that k_head leaves -/
theorem walk_ofG {l : PySem.W.OpenLaw} {n k : Nat} {q : Program} {loose : List Str} {XP : (Str → Option Value) → Heap → Prop} {YP : World → Heap → Prop} {d : DefRec} {K : Params → PySem.W.Frag} {CX : World → CXT} {sp : World → Sp} {x : Str}
    (hn : l.most = some n) (hn2 : n ≤ sizeLine) (hdf : d.params.defaults = []) (hr : Rg k callerA)
    (hY : ∀ (w : World) (h : Heap), YP w h → (K w.params).In h)
    (F : ∀ (w : World) (mg : Str → Option Value) (fa : Addr) (h : Heap), (K w.params).In h → h.Ns mainGlobals mg → mg d.name = some (.ref fa) →
      ∃ fd : FuncData, (∀ (s : Shared) (u : Value), BindsTo s fd ⟨[u], []⟩ [(x, u)]) ∧
        ∀ base : Heap, (K w.params).In base → base.Ns mainGlobals mg → FnG l.prog w (K w.params) mg base (CX w) k fa fd [x] (sp w))
    (hsp : ∀ (w : World) (H : Hp) (a : Addr) (ns : List Int), ns.length ≤ n → Only H → SqL (K w.params) H a (ns.map V.int) → sp w [.ref a] H (fun v _ => v = .bl true) fun _ _ _ => False)
    (hCX : ∀ (w : World) (H : Hp) (s : Shared) (e : Value) (s' : Shared), CX w [] H s (fun _ _ _ => False) e s' → False) :
    PySem.W.WalkO q loose XP YP l.row.toRowW d [] (fun f vs => PySem.call f vs) := by
  refine Att.attach_call hn hdf fun w s₀ s₁ mg mb fa o pm cd doc a vs ns G Y ho hd hcd hmg hobj hints hlen hg => ?_
  have KX := hY w _ Y
  obtain ⟨fd, hb, hF⟩ := F w mg fa _ KX G.T.g hmg
  exact law_callG KX G.T.g G.T.b G.T.builtins G.T.nolimit hg hobj hints (Nat.le_trans hlen hn2) hr hF hb (fun H hO hS => hsp w H a ns hlen hO hS) fun H e s' => hCX w H s₁ e s'
end DL

end

section
set_option Elab.async false
set_option linter.all false
set_option maxRecDepth 100000
/-! EX, part B: defs that may let an exception out; calls. -/
namespace DL
open PySem L2 RZ PyProof.Rows

/-- what a def is worth, an exception among it -/
def semX (N n : Nat) (mu : List Nat) (m : MS) : Sem := fun os => if os.length = n then match m (os.map some ++ List.replicate (N - n) none) with
  | .ret r ρ' => .ok r (keepE mu n ρ')
  | .next ρ' => .ok (.sh .non) (keepE mu n ρ')
  | .exc e ρ' => .exc e (keepE mu n ρ')
  | _ => .bad else .bad
def spX (κ : Kx) (n : Nat) (sem : Sem) : Sp := fun vs H Q E => vs.length = n ∧ ∃ A F os, G κ A F H (os.map some) (vs.map some) [] [] ∧ match sem os with
  | .ok r fs => ∀ v A' F' H', Fr A F H A' F' H' → G κ A' F' H' fs (vs.map some) [r] [v] → Q v H'
  | .exc e fs => ∀ cls d A' F' H', Fr A F H A' F' H' → G κ A' F' H' fs (vs.map some) [] [] → ExRep κ F' H' cls d e → E cls d H'
  | .bad => False
theorem semOf_X {N n : Nat} {mu : List Nat} {m : MS} {os : List O} {r : O} {fs : Env} (h : semOf N n mu m os = .ok r fs) : semX N n mu m os = .ok r fs := by
  unfold semOf at h
  unfold semX
  split at h
  · rename_i hl
    rw [if_pos hl]
    split at h
    · rename_i e; rw [e]; exact h
    · rename_i e; rw [e]; exact h
    · cases h
  · cases h
theorem semOf_exc {N n : Nat} {mu : List Nat} {m : MS} {os : List O} {e : D} {fs : Env} (h : semOf N n mu m os = .exc e fs) : False := by
  unfold semOf at h
  split at h
  · split at h <;> cases h
  · cases h
theorem spX_D {κ : Kx} {k N n : Nat} {mu : List Nat} {m : MS} : ∀ vs H Q E, spX κ k (semOf N n mu m) vs H Q E → spX κ k (semX N n mu m) vs H Q E := fun vs H Q E ⟨h1, A, F, os, g, h⟩ => by
  refine ⟨h1, A, F, os, g, ?_⟩
  cases e : semOf N n mu m os with
  | bad => rw [e] at h; exact h.elim
  | exc x fs => exact (semOf_exc e).elim
  | ok r fs => rw [e] at h; rw [semOf_X e]; exact h

/-- a def that lets nothing out -/
theorem fn_G {P : Program} {w : World} {K : PySem.W.Frag} {mg : Str → Option Value} {base : Heap} {x qual : Str} {st : Stmt} {f : Addr} {fd : FuncData} {N ps : List Str} {k : Nat} {mu : List Nat} {m : MS} (Fu : Fun K x qual st f fd) (S : FnScope N ps (defScope st)) (hps : ps.length ≤ N.length)
    (hb : ∀ (cdv : Value) (A : Around) (outer : List PySem.Env) (s : Shared) (H : Hp) (E : XK), Rg k (A.deeper (envOfC qual (defScope st) s.heap.objs.size f cdv)) → PSs (cxOf CX0 P w K mg base N qual (defScope st) f cdv A outer s H E).nox (defBody st) (tS ⟨K, mg⟩ W0 mu m)) :
    FnG P w K mg base CX0 (k + 1) f fd ps (spX ⟨K, mg⟩ ps.length (semOf N.length ps.length mu m)) := by
  refine okG Fu S (fun vs H Q E h => h.1) fun cdv A outer s H vs Q E hr h => ⟨_, hb cdv A outer s H E hr, ?_⟩
  obtain ⟨hl, Af, F, os, g, h⟩ := h
  have ho : os.length = ps.length := by have := g.len; simp at this; omega
  have hv : (vs.map some).length = ps.length := by simp [hl]
  refine ⟨Af, F, os.map some ++ List.replicate (N.length - ps.length) none, ?_, ?_⟩
  · unfold L2.start
    rw [hl]
    exact gPad g _
  · simp only [semOf, if_pos ho] at h
    have hm : ∀ {σ' : L2.St}, (∀ i ∈ mu, σ'[i]? = (L2.start N vs)[i]?) → ∀ i ∈ mu, i < ps.length → σ'[i]? = (vs.map some)[i]? := fun q i hi hn => by
      rw [q i hi]
      unfold L2.start
      rw [List.getElem?_append_left (by rw [hv]; exact hn)]
    cases e : m (os.map some ++ List.replicate (N.length - ps.length) none) with
    | bad => rw [e] at h; exact h
    | brk _ => rw [e] at h; exact h.elim
    | cont _ => rw [e] at h; exact h.elim
    | exc _ _ => rw [e] at h; exact h.elim
    | next ρ' =>
      rw [e] at h
      intro σ' A' F' H' f' g' m'
      obtain ⟨g2, f2⟩ := (gCut g' hv (hm m')).pushSh .non
      exact h .non _ F' H' (f'.trans f2) g2
    | ret r ρ' =>
      rw [e] at h
      intro v σ' A' F' H' f' g' m'
      exact h v A' F' H' f' (gCut g' hv (hm m'))
/-- what is wanted of what a def lets out -/
def WE (E : XK) : WX' := fun cls d _ H => E cls d H
/-- a def that may let an exception out -/
theorem fn_GX {P : Program} {w : World} {K : PySem.W.Frag} {mg : Str → Option Value} {base : Heap} {x qual : Str} {st : Stmt} {f : Addr} {fd : FuncData} {N ps : List Str} {k : Nat} {mu : List Nat} {m : MS} (Fu : Fun K x qual st f fd) (S : FnScope N ps (defScope st)) (hps : ps.length ≤ N.length)
    (hb : ∀ (cdv : Value) (A : Around) (outer : List PySem.Env) (s : Shared) (H : Hp) (E : XK), Rg k (A.deeper (envOfC qual (defScope st) s.heap.objs.size f cdv)) → PSs (cxOf (L2.CX P w) P w K mg base N qual (defScope st) f cdv A outer s H E) (defBody st) (tS ⟨K, mg⟩ (WE E) mu m)) :
    FnG P w K mg base (L2.CX P w) (k + 1) f fd ps (spX ⟨K, mg⟩ ps.length (semX N.length ps.length mu m)) := by
  refine okGX Fu S (fun vs H Q E h => h.1) fun cdv A outer s H vs Q E hr h => ⟨_, hb cdv A outer s H E hr, ?_⟩
  obtain ⟨hl, Af, F, os, g, h⟩ := h
  have ho : os.length = ps.length := by have := g.len; simp at this; omega
  have hv : (vs.map some).length = ps.length := by simp [hl]
  refine ⟨Af, F, os.map some ++ List.replicate (N.length - ps.length) none, ?_, ?_⟩
  · unfold L2.start
    rw [hl]
    exact gPad g _
  · simp only [semX, if_pos ho] at h
    have hm : ∀ {σ' : L2.St}, (∀ i ∈ mu, σ'[i]? = (L2.start N vs)[i]?) → ∀ i ∈ mu, i < ps.length → σ'[i]? = (vs.map some)[i]? := fun q i hi hn => by
      rw [q i hi]
      unfold L2.start
      rw [List.getElem?_append_left (by rw [hv]; exact hn)]
    cases e : m (os.map some ++ List.replicate (N.length - ps.length) none) with
    | bad => rw [e] at h; exact h
    | brk _ => rw [e] at h; exact h.elim
    | cont _ => rw [e] at h; exact h.elim
    | exc x ρ' =>
      rw [e] at h
      intro cls d σ' A' F' H' f' g' r' m'
      exact h cls d A' F' H' f' (gCut g' hv (hm m')) r'
    | next ρ' =>
      rw [e] at h
      intro σ' A' F' H' f' g' m'
      obtain ⟨g2, f2⟩ := (gCut g' hv (hm m')).pushSh .non
      exact h .non _ F' H' (f'.trans f2) g2
    | ret r ρ' =>
      rw [e] at h
      intro v σ' A' F' H' f' g' m'
      exact h v A' F' H' f' (gCut g' hv (hm m'))

/-- there and back: what is handed to a callee, what comes back -/
theorem call_merge {κ : Kx} {A1 : Fp} {F1 H1 : Hp} {ρ1 : Env} {σ : L2.St} {τ rs : List O} {υ us vs : List V} {as : List (Option Nat)} {os : List O} (g1 : G κ A1 F1 H1 ρ1 σ (τ ++ rs) (υ ++ us)) (hlu : τ.length = υ.length) (ar : Args σ as us vs) (ef : fill as rs ρ1 = some os) (nd : (as.filterMap id).Nodup) :
    ∃ Ac, G κ Ac F1 H1 (os.map some) (vs.map some) [] [] ∧ ∀ fs ws xs A2 F2 H2, Fr Ac F1 H1 A2 F2 H2 → G κ A2 F2 H2 fs (vs.map some) ws xs → ∃ A', G κ A' F2 H2 (putBack ρ1 as fs ρ1) σ (τ ++ ws) (υ ++ xs) ∧ Fr A1 F1 H1 A' F2 H2 := by
  let f : Ix → Option Ix := fun x => match x with
    | .s j => srcIx τ.length as j
    | .t _ => none
  let Ac : Fp := fun y => match f y with
    | some x => A1 x
    | none => []
  have hc : ∀ y, Ac y = match f y with | some x => A1 x | none => [] := fun _ => rfl
  have lo : os.length = as.length := fill_len ef
  have gc := g1.re (A' := Ac) (ρ' := os.map some) (σ' := vs.map some) (τ' := []) (υ' := []) f (by simp [lo, ar.length]) rfl hc (fun x x' y e e' => by
      cases x with
      | t _ => cases e
      | s j =>
        cases x' with
        | t _ => cases e'
        | s j' => rw [srcIx_inj nd e e']) (fun x o e => by
      cases x with
      | t k => simp [atO] at e
      | s j =>
        have e1 := atO_get e
        rw [List.getElem?_map] at e1
        have e2 : os[j]? = some o := by
          cases q : os[j]? with
          | none => rw [q] at e1; cases e1
          | some z => rw [q] at e1; cases e1; rfl
        obtain ⟨y, h1, h2⟩ := srcIx_O (τ := τ) ef e2
        refine ⟨y, h1, h2, ?_⟩
        rw [hlu] at h1
        rw [srcIx_V ar h1]
        simp only [atV, List.getElem?_map]
        cases vs[j]? <;> rfl)
  refine ⟨Ac, gc.1, fun fs ws xs A2 F2 H2 f2 g2 => ?_⟩
  have lwx : ws.length = xs.length := g2.lent
  let d : Ix → Option Ix := fun x => match x with
    | .t k => if τ.length ≤ k then some (.t (k - τ.length)) else none
    | .s i => match posOf as i with
      | some j => if slotSh ρ1 i = true then none else some (.s j)
      | none => none
  let B' : Fp := fun x => match x with
    | .t k => if k < τ.length then A1 (.t k) else []
    | .s i => A1 (.s i)
  let A' : Fp := fun x => match d x with
    | some z => A2 z
    | none => B' x
  have shN : ∀ i, slotSh ρ1 i = true → A1 (.s i) = [] := fun i q => by
    unfold slotSh at q
    split at q
    · rename_i dd eq
      obtain ⟨w, h1, h2⟩ := g1.slot eq
      exact h2.sh_nil
    · cases q
  have dN : ∀ i, d (.s i) = none → slotSh ρ1 i = true ∨ some i ∉ as := fun i q => by
    have q : (match posOf as i with
      | some j => if slotSh ρ1 i = true then none else some (Ix.s j)
      | none => none) = none := q
    cases ep : posOf as i with
    | none => exact .inr (posOf_none ep)
    | some j =>
      rw [ep] at q
      simp only at q
      split at q
      · exact .inl (by assumption)
      · cases q
  have A'n : ∀ x, d x = none → A' x = B' x := fun x q => by
    show (match d x with
      | some z => A2 z
      | none => B' x) = _
    rw [q]
  have A's : ∀ x z, d x = some z → A' x = A2 z := fun x z q => by
    show (match d x with
      | some z => A2 z
      | none => B' x) = _
    rw [q]
  have hU : ∀ x, d x = none → ∀ b ∈ A' x, b ∈ A1 x ∧ ∀ y, f y ≠ some x := fun x q b hb => by
    rw [A'n x q] at hb
    cases x with
    | t k =>
      have hb : b ∈ (if k < τ.length then A1 (.t k) else []) := hb
      split at hb
      · rename_i hk
        refine ⟨hb, fun y e => ?_⟩
        cases y with
        | t _ => cases e
        | s j =>
          have := srcIx_t (show srcIx τ.length as j = some (.t k) from e)
          omega
      · simp at hb
    | s i =>
      refine ⟨hb, fun y e => ?_⟩
      rcases dN i q with z | z
      · have hb : b ∈ A1 (.s i) := hb
        rw [shN i z] at hb; simp at hb
      · cases y with
        | t _ => cases e
        | s j =>
          have := srcIx_s.mp (show srcIx τ.length as j = some (.s i) from e)
          exact z (List.mem_iff_getElem?.mpr ⟨j, this⟩)
  have dt : ∀ k z, d (.t k) = some z → τ.length ≤ k ∧ z = .t (k - τ.length) := fun k z e => by
    have e : (if τ.length ≤ k then some (Ix.t (k - τ.length)) else none) = some z := e
    split at e
    · cases e; exact ⟨by assumption, rfl⟩
    · cases e
  have dS : ∀ i z, d (.s i) = some z → ∃ j, z = .s j ∧ posOf as i = some j := fun i z e => by
    have e : (match posOf as i with
      | some j => if slotSh ρ1 i = true then none else some (Ix.s j)
      | none => none) = some z := e
    split at e
    · rename_i j ej
      split at e
      · cases e
      · cases e; exact ⟨j, rfl, ej⟩
    · cases e
  have m := gMerge (ρ' := putBack ρ1 as fs ρ1) (τ' := τ ++ ws) (υ' := υ ++ xs) (A' := A') g1 g2 f d hc f2 A's hU (fun x => by
      cases q : d x with
      | some z => rw [A's x z q]; exact g2.nd z
      | none =>
        rw [A'n x q]
        cases x with
        | t k =>
          show (if k < τ.length then A1 (.t k) else []).Nodup
          split
          · exact g1.nd _
          · exact List.nodup_nil
        | s i => exact g1.nd _) (fun x x' z e e' => by
      cases x with
      | t k =>
        obtain ⟨h1, rfl⟩ := dt k z e
        cases x' with
        | t k' =>
          obtain ⟨h2, h3⟩ := dt k' _ e'
          have h3 : k - τ.length = k' - τ.length := by injection h3
          have : k = k' := by omega
          rw [this]
        | s i' =>
          obtain ⟨j, h3, _⟩ := dS i' _ e'
          cases h3
      | s i =>
        obtain ⟨j, rfl, h1⟩ := dS i z e
        cases x' with
        | t k' =>
          obtain ⟨_, h3⟩ := dt k' _ e'
          cases h3
        | s i' =>
          obtain ⟨j', h3, h2⟩ := dS i' _ e'
          cases h3
          have h1 := posOf_get h1
          have h2 := posOf_get h2
          rw [h1] at h2
          cases h2
          rfl) (by rw [putBack_len]; exact g1.len) (by simp [hlu, lwx]) (fun x o e => by
      cases x with
      | t k =>
        by_cases hk : τ.length ≤ k
        · have ed : d (.t k) = some (.t (k - τ.length)) := if_pos hk
          simp only [atO] at e
          rw [List.getElem?_append_right hk] at e
          refine .inl ⟨.t (k - τ.length), ed, e, ?_⟩
          simp only [atV]
          rw [List.getElem?_append_right (by omega), hlu]
        · have hl : k < τ.length := by omega
          have dn : d (.t k) = none := if_neg hk
          refine .inr ⟨dn, (A'n (.t k) dn).trans (if_pos hl), .t k, ?_, ?_, rfl⟩
          · simp only [atO] at e ⊢
            rw [List.getElem?_append_left hl] at e ⊢
            exact e
          · simp only [atV]
            rw [List.getElem?_append_left (by omega), List.getElem?_append_left (by omega)]
      | s i =>
        rcases putBack_get (atO_get e) with ⟨j, h1, h2, h3⟩ | ⟨h1, h2⟩
        · cases ep : posOf as i with
          | none => exact absurd (List.mem_iff_getElem?.mpr ⟨j, h1⟩) (posOf_none ep)
          | some j' =>
            have hj : j' = j := srcIx_inj (k := 0) nd (srcIx_s.mpr (posOf_get ep)) (srcIx_s.mpr h1)
            subst hj
            have ds : d (.s i) = some (.s j') := by
              show (match posOf as i with
                | some j => if slotSh ρ1 i = true then none else some (Ix.s j)
                | none => none) = _
              rw [ep]
              simp [h3]
            refine .inl ⟨.s j', ds, by simp [atO, h2], ?_⟩
            have := srcIx_V (υ := υ) ar (srcIx_s.mpr h1)
            simp only [atV] at this ⊢
            rw [this, List.getElem?_map]
            cases vs[j']? <;> rfl
        · have dn : d (.s i) = none := by
            show (match posOf as i with
              | some j => if slotSh ρ1 i = true then none else some (Ix.s j)
              | none => none) = _
            cases ep : posOf as i with
            | none => rfl
            | some j' =>
              rcases h2 with z | z
              · exact absurd (List.mem_iff_getElem?.mpr ⟨j', posOf_get ep⟩) z
              · simp [z]
          exact .inr ⟨dn, A'n (.s i) dn, .s i, by simp [atO, h1], rfl, rfl⟩)
  exact ⟨A', m.1, m.2⟩

/-- a call, what is raised among it -/
def mCallX (sem : Sem) (as : List (Option Nat)) (ms : M (List O)) : M O := mBind ms fun rs ρ => match fill as rs ρ with
  | some os => match sem os with
    | .ok r fs => .ok r (putBack ρ as fs ρ)
    | .exc e fs => .exc e (putBack ρ as fs ρ)
    | .bad => .bad
  | none => .bad
section
variable {X : Cx} {κ : Kx} {W : WX'} {e : Expr} {es : List Expr} {n : Nat} {sem : Sem} {as : List (Option Nat)} {ms : M (List O)}
/-- from the arguments' end to the callee's promise -/
theorem callee {sem : Sem} {σ : L2.St} {Q : VK} {A A1 : Fp} {F F1 H H1 : Hp} {ρ1 : Env} {τ rs : List O} {υ us vs : List V} (hn : as.length = n) (nd : (as.filterMap id).Nodup)
    (f1 : Fr A F H A1 F1 H1) (g1 : G κ A1 F1 H1 ρ1 σ (τ ++ rs) (υ ++ us)) (hlu : τ.length = υ.length) (ar : Args σ as us vs)
    (h : Wp κ W A F H σ τ υ ((match fill as rs ρ1 with
      | some os => match sem os with
        | .ok r fs => .ok r (putBack ρ1 as fs ρ1)
        | .exc e fs => .exc e (putBack ρ1 as fs ρ1)
        | .bad => .bad
      | none => .bad : Out O)) fun r ρ' => ∀ v A' F' H', Fr A F H A' F' H' → G κ A' F' H' ρ' σ (τ ++ [r]) (υ ++ [v]) → Q v H') :
    spX κ n sem vs H1 Q (fun cls d H => W cls d σ H) := by
  cases ef : fill as rs ρ1 with
  | none => rw [ef] at h; exact h.elim
  | some os =>
  rw [ef] at h
  obtain ⟨Ac, gc, back⟩ := call_merge g1 hlu ar ef nd
  refine ⟨by rw [ar.length]; exact hn, Ac, F1, os, gc, ?_⟩
  cases es : sem os with
  | bad => simp only [es] at h; exact h.elim
  | exc x fs =>
    simp only [es] at h
    intro cls d A2 F2 H2 f2 g2 r2
    obtain ⟨A', g', f'⟩ := back fs [] [] A2 F2 H2 f2 g2
    rw [List.append_nil, List.append_nil] at g'
    exact h cls d A' F2 H2 (f1.trans f') g' r2
  | ok r fs =>
    simp only [es] at h
    intro v A2 F2 H2 f2 g2
    obtain ⟨A', g', f'⟩ := back fs [r] [v] A2 F2 H2 f2 g2
    exact h v A' F2 H2 (f1.trans f') g'
theorem de_callX (h : ∀ t, PA X es t → PE X e (tCallS (spX κ n sem) (fun σ cls d H => W cls d σ H) t)) (ha : PA X es (tAs κ W as ms))
    (hn : as.length = n := by rfl) (nd : (as.filterMap id).Nodup := by decide) : PE X e (tE κ W false (mCallX sem as ms)) :=
  pe_imp (h _ ha) fun σ H Q ⟨A, F, ρ, τ, υ, g, h⟩ => ⟨A, F, ρ, τ, υ, g, h.bind.imp fun rs ρ1 h vs us A1 F1 H1 f1 g1 l1 ar =>
    callee hn nd f1 g1 g.lent ar (h.imp fun r ρ' h v A' F' H' f' g' => h v A' F' H' (.no f') g')⟩
/-- o.m(..), o in the slot i -/
def mMethX (c m : Str) (i : Nat) (sem : Sem) (as : List (Option Nat)) (ms : M (List O)) : M O := fun ρ => match ρ[i]? with
  | some (some (.rc (.ob c' ns) gs)) => if c' = c ∧ m ∉ ns then mCallX sem (some i :: as) ms ρ else .bad
  | some (some (.fd (.sh (.ob c' ns ds)))) => if c' = c ∧ m ∉ ns then mCallX sem (some i :: as) ms ρ else .bad
  | _ => .bad
theorem lookup_no {α : Type} {f : Str} : ∀ {fs : List (Str × α)}, f ∉ fs.map (·.1) → fs.lookup f = none
  | [], _ => rfl
  | (x, a) :: fs, h => by
    simp only [List.map_cons, List.mem_cons, not_or] at h
    rw [List.lookup_cons]
    have e : (f == x) = false := by simpa using h.1
    rw [e]
    exact lookup_no h.2
theorem de_methX {c m x : Str} {px : Pos} {i : Nat} {C : Addr} (h : ∀ ta t, PE X (.Name x px) ta → PA X es t → PE X e (tMethS C m (spX κ n sem) (fun σ cls d H => W cls d σ H) ta t)) (hc : κ.mg c = some (.ref C)) (hi : PE X (.Name x px) (tVar i)) (ha : PA X es (tAs κ W as ms))
    (hn : as.length + 1 = n := by rfl) (nd : ((some i :: as).filterMap id).Nodup := by decide) : PE X e (tE κ W false (mMethX c m i sem as ms)) :=
  pe_imp (h _ _ hi ha) fun σ H Q ⟨A, F, ρ, τ, υ, g, h⟩ => by
    have key : ∀ a dx fs, σ[i]? = some (some (.ref a)) → H a = some (.ins C dx fs) → fs.lookup m = none → Wp κ W A F H σ τ υ (mCallX sem (some i :: as) ms ρ) (fun r ρ' => ∀ v A' F' H', Stp false ρ A F H ρ' A' F' H' → G κ A' F' H' ρ' σ (τ ++ [r]) (υ ++ [v]) → Q v H') →
        tMethS C m (spX κ n sem) (fun σ cls d H => W cls d σ H) (tVar i) (tAs κ W as ms) σ H Q := fun a dx fs h1 h2 h3 h =>
      ⟨.ref a, h1, a, dx, fs, rfl, h2, h3, A, F, ρ, τ, υ, g, h.bind.imp fun rs ρ1 h vs us A1 F1 H1 f1 g1 l1 ar =>
        callee (as := some i :: as) (by simpa using hn) nd f1 g1 g.lent (.slot h1 ar) (h.imp fun r ρ' h v A' F' H' f' g' => h v A' F' H' (.no f') g')⟩
    unfold mMethX at h
    split at h
    · rename_i c' ns gs er
      split at h
      · rename_i hcm
        obtain ⟨rfl, hm⟩ := hcm
        obtain ⟨v, h1, h2⟩ := g.slot er
        obtain ⟨a, C', dx, fs, T, rfl, h4, h5, rfl, h6⟩ := h2.ob_v
        rw [hc] at h5
        cases h5
        exact key a dx fs h1 h4 (lookup_no hm) h
      · exact h.elim
    · rename_i c' ns ds er
      split at h
      · rename_i hcm
        obtain ⟨rfl, hm⟩ := hcm
        obtain ⟨v, h1, h2⟩ := g.slot er
        obtain ⟨a, C', dx, fs, rfl, h4, h5, rfl, h6⟩ := (h2.sh_v).ob_v
        rw [hc] at h5
        cases h5
        exact key a dx fs h1 (g.fh _ _ h4) (lookup_no hm) h
      · exact h.elim
    · exact h.elim
end
end DL

end

section
set_option Elab.async false
set_option linter.all false
set_option maxRecDepth 100000
/-! EX, part C: instances made, their fields stored, the cells in their fields. -/
namespace DL
open PySem L2 RZ PyProof.Rows

section
variable {κ : Kx} {A A' : Fp} {F F' H H' : Hp} {ρ ρ' : Env} {σ σ' : L2.St} {τ τ' : List O} {υ υ' : List V}
/-- the top of the stack in a slot of its own, behind all others -/
theorem G.toSlot {o : O} {v : V} (g : G κ A F H ρ σ (τ ++ [o]) (υ ++ [v])) : ∃ A', G κ A' F H (ρ ++ [some o]) (σ ++ [some v]) τ υ ∧ Fr A F H A' F H := by
  have hl : τ.length = υ.length := by have := g.lent; simp at this; exact this
  let f : Ix → Option Ix := fun x => match x with
    | .s i => if i = ρ.length then some (.t τ.length) else some (.s i)
    | .t k => if k = τ.length then none else some (.t k)
  let A' : Fp := fun x => match f x with
    | some y => A y
    | none => []
  have h := g.re (A' := A') (ρ' := ρ ++ [some o]) (σ' := σ ++ [some v]) (τ' := τ) (υ' := υ) f (by simp [g.len]) hl (fun _ => rfl) (fun x x' y e e' => by
      cases x with
      | s i =>
        have e : (if i = ρ.length then some (Ix.t τ.length) else some (.s i)) = some y := e
        split at e
        · rename_i hi; cases e
          cases x' with
          | s i' =>
            have e' : (if i' = ρ.length then some (Ix.t τ.length) else some (.s i')) = some (.t τ.length) := e'
            split at e'
            · rename_i hi'; rw [hi, hi']
            · cases e'
          | t k' =>
            have e' : (if k' = τ.length then none else some (Ix.t k')) = some (.t τ.length) := e'
            split at e'
            · cases e'
            · rename_i hk; cases e'; exact absurd rfl hk
        · cases e
          cases x' with
          | s i' =>
            have e' : (if i' = ρ.length then some (Ix.t τ.length) else some (.s i')) = some (.s i) := e'
            split at e'
            · cases e'
            · cases e'; rfl
          | t k' =>
            have e' : (if k' = τ.length then none else some (Ix.t k')) = some (.s i) := e'
            split at e' <;> cases e'
      | t k =>
        have e : (if k = τ.length then none else some (Ix.t k)) = some y := e
        split at e
        · cases e
        · rename_i hk; cases e
          cases x' with
          | s i' =>
            have e' : (if i' = ρ.length then some (Ix.t τ.length) else some (.s i')) = some (.t k) := e'
            split at e'
            · cases e'; exact absurd rfl hk
            · cases e'
          | t k' =>
            have e' : (if k' = τ.length then none else some (Ix.t k')) = some (.t k) := e'
            split at e'
            · cases e'
            · cases e'; rfl) (fun x u e => by
      cases x with
      | s i =>
        by_cases hi : i = ρ.length
        · subst hi
          refine ⟨.t τ.length, if_pos rfl, ?_, ?_⟩
          · simp [atO] at e; subst e; exact atO_top
          · rw [hl, atV_top, g.len]; simp [atV]
        · refine ⟨.s i, if_neg hi, ?_, ?_⟩
          · simp only [atO] at e ⊢
            rcases Nat.lt_or_ge i ρ.length with q | q
            · rw [List.getElem?_append_left q] at e; exact e
            · rw [List.getElem?_eq_none (by simp; omega)] at e; cases e
          · simp only [atV]
            rcases Nat.lt_or_ge i σ.length with q | q
            · rw [List.getElem?_append_left q]
            · have := g.len
              rw [List.getElem?_eq_none (by simp; omega), List.getElem?_eq_none (by omega)]
      | t k =>
        have hk : k < τ.length := by
          rcases Nat.lt_or_ge k τ.length with q | q
          · exact q
          · simp [atO, List.getElem?_eq_none q] at e
        refine ⟨.t k, if_neg (by omega), ?_, ?_⟩
        · simp only [atO] at e ⊢
          rw [List.getElem?_append_left hk]; exact e
        · simp only [atV]
          rw [List.getElem?_append_left (by omega)])
  exact ⟨A', h.1, h.2⟩
/-- the last slot, on the stack -/
theorem G.fromSlot {o : O} {v : V} (hl : ρ.length = σ.length) (g : G κ A F H (ρ ++ [some o]) (σ ++ [some v]) τ υ) : ∃ A', G κ A' F H ρ σ (τ ++ [o]) (υ ++ [v]) ∧ Fr A F H A' F H := by
  let f : Ix → Option Ix := fun x => match x with
    | .s i => if i < ρ.length then some (.s i) else none
    | .t k => if k = τ.length then some (.s ρ.length) else if k < τ.length then some (.t k) else none
  let A' : Fp := fun x => match f x with
    | some y => A y
    | none => []
  have h := g.re (A' := A') (ρ' := ρ) (σ' := σ) (τ' := τ ++ [o]) (υ' := υ ++ [v]) f hl (by simp [g.lent]) (fun _ => rfl) (fun x x' y e e' => by
      cases x with
      | s i =>
        have e : (if i < ρ.length then some (Ix.s i) else none) = some y := e
        split at e
        · rename_i hi; cases e
          cases x' with
          | s i' =>
            have e' : (if i' < ρ.length then some (Ix.s i') else none) = some (.s i) := e'
            split at e'
            · cases e'; rfl
            · cases e'
          | t k' =>
            have e' : (if k' = τ.length then some (.s ρ.length) else if k' < τ.length then some (Ix.t k') else none) = some (.s i) := e'
            split at e'
            · cases e'; exact absurd hi (Nat.lt_irrefl _)
            · split at e' <;> cases e'
        · cases e
      | t k =>
        have e : (if k = τ.length then some (.s ρ.length) else if k < τ.length then some (Ix.t k) else none) = some y := e
        split at e
        · rename_i hk; cases e
          cases x' with
          | s i' =>
            have e' : (if i' < ρ.length then some (Ix.s i') else none) = some (.s ρ.length) := e'
            split at e'
            · rename_i hi; cases e'; exact absurd hi (Nat.lt_irrefl _)
            · cases e'
          | t k' =>
            have e' : (if k' = τ.length then some (.s ρ.length) else if k' < τ.length then some (Ix.t k') else none) = some (.s ρ.length) := e'
            split at e'
            · rename_i hk'; rw [hk, hk']
            · split at e' <;> cases e'
        · split at e
          · cases e
            cases x' with
            | s i' =>
              have e' : (if i' < ρ.length then some (Ix.s i') else none) = some (.t k) := e'
              split at e' <;> cases e'
            | t k' =>
              have e' : (if k' = τ.length then some (.s ρ.length) else if k' < τ.length then some (Ix.t k') else none) = some (.t k) := e'
              split at e'
              · cases e'
              · split at e'
                · cases e'; rfl
                · cases e'
          · cases e) (fun x u e => by
      cases x with
      | s i =>
        have hi : i < ρ.length := by
          rcases Nat.lt_or_ge i ρ.length with q | q
          · exact q
          · simp [atO, List.getElem?_eq_none q] at e
        refine ⟨.s i, if_pos hi, ?_, ?_⟩
        · simp only [atO] at e ⊢
          rw [List.getElem?_append_left hi]; exact e
        · simp only [atV]
          rw [List.getElem?_append_left (by omega)]
      | t k =>
        by_cases hk : k = τ.length
        · subst hk
          rw [atO_top] at e; cases e
          refine ⟨.s ρ.length, if_pos rfl, by simp [atO], ?_⟩
          have : τ.length = υ.length := g.lent
          rw [this, atV_top, hl]
          simp [atV]
        · have hk2 : k < τ.length := by
            rcases Nat.lt_or_ge k τ.length with q | q
            · exact q
            · rw [atO_app (fun z => hk (by cases z; rfl))] at e
              simp [atO, List.getElem?_eq_none q] at e
          refine ⟨.t k, by show (if k = τ.length then some (Ix.s ρ.length) else if k < τ.length then some (.t k) else none) = _; rw [if_neg hk, if_pos hk2], ?_, ?_⟩
          · rw [atO_app (fun z => hk (by cases z; rfl))] at e
            exact e
          · have : τ.length = υ.length := g.lent
            simp only [atV]
            rw [List.getElem?_append_left (by omega)])
  exact ⟨A', h.1, h.2⟩
/-- the last slot is given up -/
theorem G.cutSlot {f : Option O} {z : Option V} (hl : ρ.length = σ.length) (g : G κ A F H (ρ ++ [f]) (σ ++ [z]) τ υ) : ∃ A', G κ A' F H ρ σ τ υ ∧ Fr A F H A' F H := by
  let f : Ix → Option Ix := fun x => match x with
    | .s i => if i < ρ.length then some (.s i) else none
    | .t k => some (.t k)
  let A' : Fp := fun x => match f x with
    | some y => A y
    | none => []
  have h := g.re (A' := A') (ρ' := ρ) (σ' := σ) (τ' := τ) (υ' := υ) f hl g.lent (fun _ => rfl) (fun x x' y e e' => by
      cases x with
      | s i =>
        have e : (if i < ρ.length then some (Ix.s i) else none) = some y := e
        split at e
        · cases e
          cases x' with
          | s i' =>
            have e' : (if i' < ρ.length then some (Ix.s i') else none) = some (.s i) := e'
            split at e'
            · cases e'; rfl
            · cases e'
          | t k' => cases e'
        · cases e
      | t k =>
        cases e
        cases x' with
        | s i' =>
          have e' : (if i' < ρ.length then some (Ix.s i') else none) = some (.t k) := e'
          split at e' <;> cases e'
        | t k' => cases e'; rfl) (fun x u e => by
      cases x with
      | s i =>
        have hi : i < ρ.length := by
          rcases Nat.lt_or_ge i ρ.length with q | q
          · exact q
          · simp [atO, List.getElem?_eq_none q] at e
        refine ⟨.s i, if_pos hi, ?_, ?_⟩
        · simp only [atO] at e ⊢
          rw [List.getElem?_append_left hi]; exact e
        · simp only [atV]
          rw [List.getElem?_append_left (by omega)]
      | t k => exact ⟨.t k, rfl, e, rfl⟩)
  exact ⟨A', h.1, h.2⟩
end

/-! ### C(..) -/
theorem Args.ext {σ : L2.St} {z : Option V} {as : List (Option Nat)} {us vs : List V} (h : Args σ as us vs) : Args (σ ++ [z]) as us vs := by
  induction h with
  | nil => exact .nil
  | slot e _ ih =>
    refine .slot ?_ ih
    rw [List.getElem?_append_left (by
      rcases Nat.lt_or_ge _ σ.length with q | q
      · exact q
      · rw [List.getElem?_eq_none q] at e; cases e)]
    exact e
  | push _ ih => exact .push ih
theorem Args.lt {σ : L2.St} {as : List (Option Nat)} {us vs : List V} (h : Args σ as us vs) : ∀ i, some i ∈ as → i < σ.length := by
  induction h with
  | nil => intro i hi; simp at hi
  | slot e _ ih =>
    intro i hi
    rcases List.mem_cons.mp hi with hi | hi
    · cases hi
      rcases Nat.lt_or_ge _ σ.length with q | q
      · exact q
      · rw [List.getElem?_eq_none q] at e; cases e
    · exact ih i hi
  | push _ ih =>
    intro i hi
    rcases List.mem_cons.mp hi with hi | hi
    · cases hi
    · exact ih i hi
theorem fill_ext {z : Option O} : ∀ {as : List (Option Nat)} {rs os : List O} {ρ : Env}, fill as rs ρ = some os → fill as rs (ρ ++ [z]) = some os
  | [], [], _, _, h => h
  | [], _ :: _, _, _, h => by simp [fill] at h
  | some i :: as, rs, os, ρ, h => by
    unfold fill at h ⊢
    cases e : ρ[i]? with
    | none => rw [e] at h; cases h
    | some q =>
      have hi : i < ρ.length := by
        rcases Nat.lt_or_ge i ρ.length with q | q
        · exact q
        · rw [List.getElem?_eq_none q] at e; cases e
      rw [List.getElem?_append_left hi, e]
      rw [e] at h
      cases q with
      | none => exact h
      | some o =>
        simp only at h ⊢
        cases e2 : fill as rs ρ with
        | none => rw [e2] at h; cases h
        | some us => rw [e2] at h; rw [fill_ext e2]; exact h
  | none :: as, [], _, _, h => by simp [fill] at h
  | none :: as, r :: rs, os, ρ, h => by
    unfold fill at h ⊢
    cases e2 : fill as rs ρ with
    | none => rw [e2] at h; cases h
    | some us => rw [e2] at h; rw [fill_ext e2]; exact h
theorem putBack_ext {x y : Option O} {ρ0 : Env} : ∀ {as : List (Option Nat)} {fs ρ : Env}, (∀ i, some i ∈ as → i < ρ0.length) → ρ.length = ρ0.length → putBack (ρ0 ++ [x]) as fs (ρ ++ [y]) = putBack ρ0 as fs ρ ++ [y]
  | [], _, _, _, _ => rfl
  | none :: as, fs, ρ, h, hl => by
    unfold putBack
    exact putBack_ext (fun i hi => h i (List.mem_cons_of_mem _ hi)) hl
  | some i :: as, fs, ρ, h, hl => by
    have hi := h i List.mem_cons_self
    have e1 : slotSh (ρ0 ++ [x]) i = slotSh ρ0 i := by
      unfold slotSh
      rw [List.getElem?_append_left hi]
    unfold putBack
    rw [e1]
    split
    · exact putBack_ext (fun i hi => h i (List.mem_cons_of_mem _ hi)) hl
    · rw [List.set_append_left _ _ (by omega)]
      exact putBack_ext (fun i hi => h i (List.mem_cons_of_mem _ hi)) (by simpa using hl)
theorem putBack_some {ρ0 : Env} {i : Nat} {as : List (Option Nat)} {f : Option O} {fs ρ : Env} : putBack ρ0 (some i :: as) (f :: fs) ρ = putBack ρ0 as fs (if slotSh ρ0 i = true then ρ else ρ.set i f) := rfl
/-- a new instance, by its __init__ -/
def mMakeX (c : Str) (sem : Sem) (as : List (Option Nat)) (ms : M (List O)) : M O := mBind ms fun rs ρ => match fill as rs ρ with
  | some os => match sem (.rc (.ob c []) [] :: os) with
    | .ok (.fd (.sh .non)) (some o :: fs) => .ok o (putBack ρ as fs ρ)
    | .exc e (_ :: fs) => .exc e (putBack ρ as fs ρ)
    | _ => .bad
  | none => .bad
section
variable {X : Cx} {κ : Kx} {W : WX'} {e : Expr} {es : List Expr} {n : Nat} {sem : Sem} {as : List (Option Nat)} {ms : M (List O)}
theorem de_makeX {c : Str} {C : Addr} (h : ∀ t, PA X es t → PE X e (tMakeS C (spX κ (n + 1) sem) (fun σ cls d H => W cls d σ H) t)) (hc : κ.mg c = some (.ref C)) (ha : PA X es (tAs κ W as ms))
    (hn : as.length = n := by rfl) (nd : (as.filterMap id).Nodup := by decide) : PE X e (tE κ W false (mMakeX c sem as ms)) :=
  pe_imp (h _ ha) fun σ H Q ⟨A, F, ρ, τ, υ, g, h⟩ => ⟨A, F, ρ, τ, υ, g, h.bind.imp fun rs ρ1 h vs us A1 F1 H1 f1 g1 l1 ar => by
    intro x dx hx hdx hne
    have hlu : τ.length = υ.length := g.lent
    cases ef : fill as rs ρ1 with
    | none => rw [ef] at h; exact h.elim
    | some os =>
    rw [ef] at h
    have hx2 : upd H1 dx (.own x) x = none := by rw [upd_ne (Ne.symm hne)]; exact hx
    obtain ⟨g2, f2⟩ := gJunk g1 (.own x) hdx
    obtain ⟨g3, f3⟩ := g2.pushNew (r := .rc (.ob c []) []) (o := .ins C dx []) hx2 rfl (.ob (fs := []) upd_same hc .nil)
    obtain ⟨A4, g4, f4⟩ := g3.toSlot
    have hlen : ρ1.length = σ.length := g1.len
    have ar2 : Args (σ ++ [some (.ref x)]) (some ρ1.length :: as) us (.ref x :: vs) := .slot (by rw [hlen]; simp) ar.ext
    have hlt := ar.lt
    have nd2 : ((some ρ1.length :: as).filterMap id).Nodup := by
      simp only [List.filterMap_cons, id]
      refine List.nodup_cons.mpr ⟨fun z => ?_, nd⟩
      obtain ⟨a, h1, h2⟩ := List.mem_filterMap.mp z
      simp only [id] at h2
      subst h2
      have := hlt _ h1
      omega
    have ef2 : fill (some ρ1.length :: as) rs (ρ1 ++ [some (.rc (.ob c []) [])]) = some (.rc (.ob c []) [] :: os) := by
      unfold fill
      rw [List.getElem?_append_right (Nat.le_refl _), fill_ext ef]
      simp
    obtain ⟨Ac, gc, back⟩ := call_merge g4 hlu ar2 ef2 nd2
    refine ⟨by simp [ar.length, hn], Ac, F1, _, gc, ?_⟩
    have hlt' : ∀ i, some i ∈ as → i < ρ1.length := fun i hi => by rw [hlen]; exact hlt i hi
    have pb : ∀ (f : Option O) (fs : Env), putBack (ρ1 ++ [some (.rc (.ob c []) [])]) (some ρ1.length :: as) (f :: fs) (ρ1 ++ [some (.rc (.ob c []) [])]) = putBack ρ1 as fs ρ1 ++ [f] := fun f fs => by
      have e1 : slotSh (ρ1 ++ [some (.rc (.ob c []) [])]) ρ1.length = false := by
        unfold slotSh
        rw [List.getElem?_append_right (Nat.le_refl _)]
        simp
      have e2 : (ρ1 ++ [some (O.rc (.ob c []) [])]).set ρ1.length f = ρ1 ++ [f] := by
        rw [List.set_append_right _ _ (Nat.le_refl _)]
        simp
      rw [putBack_some, e1, if_neg (by simp), e2]
      exact putBack_ext hlt' rfl
    have f14 := ((f1.trans f2).trans f3).trans f4
    cases es : sem (.rc (.ob c []) [] :: os) with
    | bad => simp only [es] at h; exact h.elim
    | exc y fs =>
      cases fs with
      | nil => simp only [es] at h; exact h.elim
      | cons f fs =>
        simp only [es] at h
        intro cls d A2 F2 H2 f5 g5 r5
        obtain ⟨A6, g6, f6⟩ := back (f :: fs) [] [] A2 F2 H2 f5 g5
        rw [List.append_nil, List.append_nil, pb] at g6
        obtain ⟨A7, g7, f7⟩ := G.cutSlot (by rw [putBack_len]; exact hlen) g6
        exact h cls d A7 F2 H2 ((f14.trans f6).trans f7) g7 r5
    | ok r fs =>
      simp only [es] at h
      match r, fs, h with
      | .fd (.sh .non), some o :: fs', h =>
        intro v A2 F2 H2 f5 g5
        obtain ⟨A6, g6, f6⟩ := back _ _ _ A2 F2 H2 f5 g5
        rw [pb] at g6
        obtain ⟨g7, w7, f7⟩ := g6.pop
        obtain ⟨A8, g8, f8⟩ := G.fromSlot (by rw [putBack_len]; exact hlen) g7
        exact ⟨w7.sh_v.non_v, h (.ref x) A8 F2 H2 (.no (((f14.trans f6).trans f7).trans f8)) g8⟩⟩
end

/-! ### fields of a slot's record -/
def putN (f : Str) : List Str → List Str
  | [] => [f]
  | g :: r => if g = f then g :: r else g :: putN f r
def putG {α : Type} (f : Str) (x : α) : List Str → List α → List α
  | g :: r, y :: ys => if g = f then x :: ys else y :: putG f x r ys
  | _, _ => [x]
theorem putF_fst (f : Str) (v : V) : ∀ fs : List (Str × V), (putF f v fs).map (·.1) = putN f (fs.map (·.1))
  | [] => rfl
  | (g, x) :: r => by
    unfold putF
    simp only [List.map_cons, putN]
    split
    · rfl
    · rw [List.map_cons, putF_fst f v r]
/-- a field is stored: what is owned then -/
theorem ownFs_put {κ : Kx} {F H H' : Hp} {f : Str} {q : Fd} {v : V} {S : List Addr} (wq : OwnF κ F H' q v S) : ∀ {fs : List (Str × V)} {gs : List Fd} {T : List Addr}, OwnFs κ F H gs (fs.map (·.2)) T → (∀ b ∈ T, ∀ o, H b = some o → H' b = some o) → T.Nodup → S.Nodup → (∀ b ∈ S, b ∉ T) →
    ∃ T', OwnFs κ F H' (putG f q (fs.map (·.1)) gs) ((putF f v fs).map (·.2)) T' ∧ T'.Nodup ∧ ∀ b ∈ T', b ∈ S ∨ b ∈ T
  | [], _, _, .nil, _, _, ns, _ => ⟨S ++ [], .cons wq .nil, by simpa using ns, fun b hb => .inl (by simpa using hb)⟩
  | (g, x) :: fs, _, _, .cons (f := y) (S := Sy) (T := Ty) h r, hk, nt, ns, dj => by
    simp only [List.map_cons, putG]
    unfold putF
    obtain ⟨n1, n2, n3⟩ := List.nodup_append.mp nt
    by_cases e : g = f
    · rw [if_pos e, if_pos e]
      refine ⟨S ++ Ty, .cons wq (r.mono (Same.refl _) fun b hb o eo => hk b (List.mem_append_right _ hb) o eo), List.nodup_append.mpr ⟨ns, n2, fun a ha b hb z => dj a ha (List.mem_append_right _ (z ▸ hb))⟩, fun b hb => ?_⟩
      rcases List.mem_append.mp hb with hb | hb
      · exact .inl hb
      · exact .inr (List.mem_append_right _ hb)
    · rw [if_neg e, if_neg e]
      obtain ⟨T', h1, h2, h3⟩ := ownFs_put (f := f) wq r (fun b hb => hk b (List.mem_append_right _ hb)) n2 ns fun b hb z => dj b hb (List.mem_append_right _ z)
      refine ⟨Sy ++ T', .cons (h.mono (Same.refl _) fun b hb o eo => hk b (List.mem_append_left _ hb) o eo) h1, List.nodup_append.mpr ⟨n1, h2, fun a ha b hb z => ?_⟩, fun b hb => ?_⟩
      · rcases h3 b hb with hb | hb
        · exact dj b hb (List.mem_append_left _ (z ▸ ha))
        · exact n3 a ha b hb z
      · rcases List.mem_append.mp hb with hb | hb
        · exact .inr (List.mem_append_left _ hb)
        · exact (h3 b hb).imp id fun q => List.mem_append_right _ q
/-- a field's cell changes -/
theorem ownFs_cell {κ : Kx} {F H H' : Hp} {f : Str} {k k' : Ct} {b : Addr} (hH : ∀ c o, c ≠ b → H c = some o → H' c = some o) (wk : OwnC κ F H' k' b) : ∀ {fs : List (Str × V)} {gs : List Fd} {T : List Addr}, OwnFs κ F H gs (fs.map (·.2)) T → T.Nodup → lookD (fs.map (·.1)) gs f = some (.ct k) → fs.lookup f = some (.ref b) →
    OwnFs κ F H' (putG f (.ct k') (fs.map (·.1)) gs) (fs.map (·.2)) T ∧ b ∈ T
  | [], _, _, _, _, e, _ => by simp [lookD] at e
  | (g, x) :: fs, _, _, .cons (f := y) (S := Sy) (T := Ty) h r, nt, e, el => by
    simp only [List.map_cons, lookD] at e
    simp only [List.map_cons, putG]
    obtain ⟨n1, n2, n3⟩ := List.nodup_append.mp nt
    by_cases q : f = g
    · subst q
      rw [if_pos rfl] at e ⊢
      cases e
      simp at el
      subst el
      generalize hy : (V.ref b) = vv at h
      generalize hz : (Fd.ct k) = zz at h
      cases h with
      | sh _ => cases hz
      | ct w =>
        cases hy; cases hz
        exact ⟨.cons (.ct wk) (r.mono (Same.refl _) fun c hc o eo => hH c o (fun z => n3 b (by simp) c hc z.symm) eo), by simp⟩
    · rw [if_neg q] at e
      rw [if_neg (Ne.symm q)]
      have q' : (f == g) = false := by simpa using q
      rw [List.lookup_cons, q'] at el
      obtain ⟨h1, h2⟩ := ownFs_cell hH wk r n2 e el
      exact ⟨.cons (h.mono (Same.refl _) fun c hc o eo => hH c o (fun z => n3 c hc b h2 z) eo) h1, List.mem_append_right _ h2⟩
/-- a field's cell is frozen -/
theorem ownFs_frz {κ : Kx} {F F' H : Hp} {f : Str} {k : Ct} {b : Addr} (eF : Same F F') (rk : Rep κ F' (.ref b) k.toD) : ∀ {fs : List (Str × V)} {gs : List Fd} {T : List Addr}, OwnFs κ F H gs (fs.map (·.2)) T → T.Nodup → lookD (fs.map (·.1)) gs f = some (.ct k) → fs.lookup f = some (.ref b) →
    ∃ T', OwnFs κ F' H (putG f (.sh k.toD) (fs.map (·.1)) gs) (fs.map (·.2)) T' ∧ b ∈ T ∧ T'.Nodup ∧ ∀ c ∈ T', c ∈ T ∧ c ≠ b
  | [], _, _, _, _, e, _ => by simp [lookD] at e
  | (g, x) :: fs, _, _, .cons (f := y) (S := Sy) (T := Ty) h r, nt, e, el => by
    simp only [List.map_cons, lookD] at e
    simp only [List.map_cons, putG]
    obtain ⟨n1, n2, n3⟩ := List.nodup_append.mp nt
    by_cases q : f = g
    · subst q
      rw [if_pos rfl] at e ⊢
      cases e
      simp at el
      subst el
      generalize hy : (V.ref b) = vv at h
      generalize hz : (Fd.ct k) = zz at h
      cases h with
      | sh _ => cases hz
      | ct w =>
        cases hy; cases hz
        exact ⟨[] ++ Ty, .cons (.sh rk) (r.mono eF fun c hc o eo => eo), by simp, by simpa using n2, fun c hc => ⟨List.mem_append_right _ (by simpa using hc), fun z => n3 b (by simp) c (by simpa using hc) z.symm⟩⟩
    · rw [if_neg q] at e
      rw [if_neg (Ne.symm q)]
      have q' : (f == g) = false := by simpa using q
      rw [List.lookup_cons, q'] at el
      obtain ⟨T', h1, h2, h3, h4⟩ := ownFs_frz eF rk r n2 e el
      refine ⟨Sy ++ T', .cons (h.mono eF fun c hc o eo => eo) h1, List.mem_append_right _ h2, List.nodup_append.mpr ⟨n1, h3, fun a ha c hc z => n3 a ha c (h4 c hc).1 z⟩, fun c hc => ?_⟩
      rcases List.mem_append.mp hc with hc | hc
      · exact ⟨List.mem_append_left _ hc, fun z => n3 c hc b h2 z⟩
      · exact ⟨List.mem_append_right _ (h4 c hc).1, (h4 c hc).2⟩
def toFd : O → Fd
  | .fd f => f
  | o => .sh o.toD
/-- self.f = e -/
def sFldX (tbl : Str → Str → Bool) (i : Nat) (f : Str) (m : M O) : MS := sBind m fun r ρ => match ρ[i]? with
  | some (some (.rc (.ob c ns) gs)) => if tbl c f = true ∧ ns.length < 1000 then .next (ρ.set i (some (.rc (.ob c (putN f ns)) (putG f (toFd r) ns gs)))) else .bad
  | _ => .bad
section
variable {X : Cx} {W : WX'} {mu : List Nat} {e k : Expr} {p q : Bool} {pos : Pos} {i : Nat} {x f : Str} {px : Pos} {tbl : Str → Str → Bool} {st : Stmt}
theorem upd_keep {H : Hp} {a : Addr} {u : HO} : ∀ b o, b ≠ a → H b = some o → upd H a u b = some o := fun b o n e => by rw [upd_ne n]; exact e
theorem lt_of_get {α : Type} {l : List α} {i : Nat} {a : α} (h : l[i]? = some a) : i < l.length := (List.getElem?_eq_some_iff.mp h).1
theorem setO {ρ : Env} {τ : List O} {i : Nat} {o' : O} : (∀ o, atO (ρ.set i (some o')) τ (.s i) = some o → o = o') ∧ ∀ y o, y ≠ .s i → atO (ρ.set i (some o')) τ y = some o → atO ρ τ y = some o := by
  refine ⟨fun o e => ?_, fun y o n e => ?_⟩
  · have e1 := atO_get e
    rw [List.getElem?_set] at e1
    rw [if_pos rfl] at e1
    split at e1
    · cases e1; rfl
    · cases e1
  · cases y with
    | t k => exact e
    | s j =>
      have hj : j ≠ i := fun z => n (by rw [z])
      simp only [atO] at e ⊢
      rw [List.getElem?_set_ne (Ne.symm hj)] at e
      exact e
theorem dS_fldX {m : M O} (ht : FieldsOk (kx X) tbl) (h : ∀ ta tv, PE X (.Name x px) ta → PE X e tv → PS X st (sFld X.K ta tv f)) (hi : PE X (.Name x px) (tVar i)) (he : PE X e (tE (kx X) W p m)) : PS X st (tS (kx X) W mu (sFldX tbl i f m)) :=
  ps_imp (h _ _ hi he) fun E σ H ⟨A, F, ρ, g, h⟩ => ⟨A, F, ρ, [], [], g, h.bind.imp fun r ρ1 h v A1 F1 H1 s1 g1 => by
    split at h
    · rename_i c ns gs er
      split at h
      · rename_i hcc
        obtain ⟨hcc, hlen⟩ := hcc
        obtain ⟨vr, h1, w1⟩ := g1.slot er
        obtain ⟨a, C, dx, fs, T, rfl, h2, h3, rfl, h4, h5⟩ := w1.ob_v
        obtain ⟨c1, c2⟩ := ht c f hcc C h3
        refine ⟨.ref a, h1, a, C, dx, fs, rfl, h2, c1, c2, by simpa using hlen, ?_⟩
        have tz : (([] : List O) ++ [r]).length = 1 := rfl
        have wr : Own (kx X) F1 H1 r v (A1 (.t 0)) := by
          obtain ⟨u, hu, w⟩ := g1.own (.t 0) r rfl
          have : u = v := by simp [atV] at hu; exact hu.symm
          subst this; exact w
        -- what is stored: as it is, or frozen
        have stored : ∃ F2 A2 S, G (kx X) A2 F2 H1 ρ1 σ [] [] ∧ Fr A1 F1 H1 A2 F2 H1 ∧ OwnF (kx X) F2 H1 (toFd r) v S ∧ S.Nodup ∧ (∀ b ∈ S, (∀ y, b ∉ A2 y) ∧ F2 b = none ∧ (∃ y, b ∈ A1 y)) ∧ A2 (.s i) = A1 (.s i) := by
          have g1' : G (kx X) A1 F1 H1 ρ1 σ ([] ++ [r]) ([] ++ [v]) := g1
          cases r with
          | fd q =>
            obtain ⟨g2, w2, f2⟩ := g1'.pop
            cases w2 with
            | fd w2 =>
              refine ⟨F1, _, _, g2, f2, w2, g1.nd (.t 0), fun b hb => ⟨fun y hy => ?_, g1.ff (.t 0) b hb, .t 0, hb⟩, upA_t _⟩
              have hy : b ∈ upA A1 (.t 0) [] y := hy
              by_cases z : y = .t 0
              · subst z; rw [upA_same] at hy; simp at hy
              · rw [upA_ne z] at hy
                exact g1.dj (.t 0) y b (Ne.symm z) hb hy
          | rc hd qs =>
            obtain ⟨F2, g2, f2, r2⟩ := g1'.freezeT
            obtain ⟨g3, w3, f3⟩ := g2.pop
            refine ⟨F2, _, [], g3, f2.trans f3, .sh r2, List.nodup_nil, fun b hb => absurd hb (by simp), ?_⟩
            rw [upA_t, upA_t]
        obtain ⟨F2, A2, S, g2, f2, w2, n2, d2, e2⟩ := stored
        obtain ⟨vr', h1', w1'⟩ := g2.slot er
        rw [h1] at h1'; cases h1'
        obtain ⟨a', C', dx', fs', T', ea, h2', h3', h6', h4', h5'⟩ := w1'.ob_v
        cases ea
        rw [h2] at h2'; cases h2'
        have hnd : (A2 (.s i)).Nodup := g2.nd _
        rw [h5'] at hnd
        obtain ⟨na, nT⟩ := List.nodup_cons.mp hnd
        have hS : ∀ b ∈ S, b ∉ A2 (.s i) := fun b hb => (d2 b hb).1 _
        have aS : ∀ b ∈ S, b ≠ a := fun b hb z => hS b hb (by rw [h5', z]; exact List.mem_cons_self)
        obtain ⟨T2, o1, o2, o3⟩ := ownFs_put (f := f) (H' := upd H1 a (.ins C dx (putF f v fs))) (w2.mono (Same.refl _) fun b hb o eo => upd_keep b o (aS b hb) eo) h4' (fun b hb o eo => upd_keep b o (fun z => na (z ▸ hb)) eo) nT n2 (fun b hb z => hS b hb (by rw [h5']; exact List.mem_cons_of_mem _ z))
        have aT2 : a ∉ T2 := fun z => by
          rcases o3 a z with z | z
          · exact aS a z rfl
          · exact na z
        have wn : Own (kx X) F2 (upd H1 a (.ins C dx (putF f v fs))) (.rc (.ob c (putN f (fs.map (·.1)))) (putG f (toFd r) (fs.map (·.1)) gs)) (.ref a) (a :: T2) := by
          rw [← putF_fst f v fs]
          exact .ob upd_same h3 o1
        have hH : ∀ b o, H1 b = some o → b ∉ A2 (.s i) → upd H1 a (.ins C dx (putF f v fs)) b = some o := fun b o eo nb => upd_keep b o (fun z => nb (by rw [h5', z]; exact List.mem_cons_self)) eo
        have g3 := g2.write (x := .s i) (ρ' := ρ1.set i (some (.rc (.ob c (putN f (fs.map (·.1)))) (putG f (toFd r) (fs.map (·.1)) gs)))) (τ' := []) (v := .ref a) (by simp) rfl setO.1 setO.2 (by simp [atV, h1]) wn (List.nodup_cons.mpr ⟨aT2, o2⟩)
          (fun b hb => by
            rcases List.mem_cons.mp hb with rfl | hb
            · exact .inl (by rw [h5']; exact List.mem_cons_self)
            · rcases o3 b hb with z | z
              · exact .inr ⟨(d2 b z).1, (d2 b z).2.1⟩
              · exact .inl (by rw [h5']; exact List.mem_cons_of_mem _ z)) hH
        have f3 : Fr A1 F2 H1 (upA A2 (.s i) (a :: T2)) F2 (upd H1 a (.ins C dx (putF f v fs))) := frWrite (fun b hb => by
            rcases List.mem_cons.mp hb with rfl | hb
            · exact .inl ⟨.s i, by rw [h5]; exact List.mem_cons_self⟩
            · rcases o3 b hb with z | z
              · exact .inl (d2 b z).2.2
              · exact .inl ⟨.s i, by rw [← e2, h5']; exact List.mem_cons_of_mem _ z⟩) (fun y b hb => by
            rcases f2.new y b hb with z | z
            · exact z
            · obtain ⟨o, eo, _⟩ := g2.ft y b hb
              rw [z] at eo; cases eo) (fun b hb => ⟨.s i, by rw [← e2]; exact hb⟩) hH fun b hb => by
            by_cases z : b = a
            · subst z; rw [upd_same]; simp
            · rw [upd_ne z]; exact hb
        -- the frame over both
        have f4 : Fr A1 F1 H1 (upA A2 (.s i) (a :: T2)) F2 (upd H1 a (.ins C dx (putF f v fs))) := ⟨f3.keep, f3.there, f3.new, f2.grow, f2.fnew⟩
        exact h σ _ F2 _ (s1.fr.trans f4) g3 fun _ _ => rfl
      · exact h.elim
    · exact h.elim⟩

/-- the cell in a field of a slot's record -/
def fldCt (tbl : Str → Str → Bool) (ρ : Env) (i : Nat) (f : Str) : Option Ct := match ρ[i]? with
  | some (some (.rc (.ob c ns) gs)) => if tbl c f = true then match lookD ns gs f with
    | some (.ct k) => some k
    | _ => none
    else none
  | _ => none
def fldPut (ρ : Env) (i : Nat) (f : Str) (q : Fd) : Env := match ρ[i]? with
  | some (some (.rc (.ob c ns) gs)) => ρ.set i (some (.rc (.ob c ns) (putG f q ns gs)))
  | _ => ρ
theorem fldCt_of {A : Fp} {F H : Hp} {ρ : Env} {σ : L2.St} {τ : List O} {υ : List V} {κ : Kx} {k : Ct} (ht : FieldsOk κ tbl) (g : G κ A F H ρ σ τ υ) (h : fldCt tbl ρ i f = some k) : ∃ c gs a C dx fs T b, ρ[i]? = some (some (.rc (.ob c (fs.map (·.1))) gs)) ∧ σ[i]? = some (some (.ref a)) ∧ H a = some (.ins C dx fs) ∧ κ.mg c = some (.ref C) ∧ Cls κ.K C ∧ NoAttr κ.K C f ∧
    A (.s i) = a :: T ∧ OwnFs κ F H gs (fs.map (·.2)) T ∧ lookD (fs.map (·.1)) gs f = some (.ct k) ∧ fs.lookup f = some (.ref b) ∧ OwnC κ F H k b ∧ b ∈ T := by
  unfold fldCt at h
  split at h
  · rename_i c ns gs er
    split at h
    · rename_i hc
      split at h
      · rename_i k' el
        cases h
        obtain ⟨v, h1, w⟩ := g.slot er
        obtain ⟨a, C, dx, fs, T, rfl, h2, h3, rfl, h4, h5⟩ := w.ob_v
        obtain ⟨u, S, h6, h7, h8⟩ := lookup_owns h4 el
        obtain ⟨c1, c2⟩ := ht c f hc C h3
        generalize hz : (Fd.ct k) = zz at h7
        cases h7 with
        | sh _ => cases hz
        | ct w =>
          cases hz
          exact ⟨c, gs, a, C, dx, fs, T, _, er, h1, h2, h3, c1, c2, h5, h4, el, h6, w, h8 _ (by simp)⟩
      · cases h
    · cases h
  · cases h
/-- the cell in a field is written -/
theorem fld_write {A : Fp} {F H : Hp} {ρ : Env} {σ : L2.St} {τ : List O} {υ : List V} {κ : Kx} {c : Str} {gs : List Fd} {a C dx b : Addr} {fs : List (Str × V)} {T : List Addr} {k k' : Ct} {u : HO} (g : G κ A F H ρ σ τ υ) (er : ρ[i]? = some (some (.rc (.ob c (fs.map (·.1))) gs))) (h1 : σ[i]? = some (some (.ref a)))
    (h2 : H a = some (.ins C dx fs)) (h3 : κ.mg c = some (.ref C)) (hA : A (.s i) = a :: T) (ws : OwnFs κ F H gs (fs.map (·.2)) T) (el : lookD (fs.map (·.1)) gs f = some (.ct k)) (eb : fs.lookup f = some (.ref b)) (hb : b ∈ T) (wk : OwnC κ F (upd H b u) k' b) :
    G κ A F (upd H b u) (fldPut ρ i f (.ct k')) σ τ υ ∧ Fr A F H A F (upd H b u) := by
  have hnd := g.nd (.s i)
  rw [hA] at hnd
  obtain ⟨na, nT⟩ := List.nodup_cons.mp hnd
  have hne : a ≠ b := fun z => na (z ▸ hb)
  obtain ⟨o1, _⟩ := ownFs_cell (H' := upd H b u) (fun c o n e => upd_keep c o n e) wk ws nT el eb
  have q := g.write1 (ρ' := ρ.set i (some (.rc (.ob c (fs.map (·.1))) (putG f (.ct k') (fs.map (·.1)) gs)))) (τ' := τ) (x := .s i) (a := b) (u := u) (by simp) rfl (by simp [atO, er]; rfl) (by rw [hA]; exact List.mem_cons_of_mem _ hb) setO.1 setO.2 (v := .ref a) (by simp [atV, h1])
    (by rw [hA]; exact .ob (by rw [upd_ne hne]; exact h2) h3 o1)
  rw [upA_id] at q
  have e : fldPut ρ i f (.ct k') = ρ.set i (some (.rc (.ob c (fs.map (·.1))) (putG f (.ct k') (fs.map (·.1)) gs))) := by
    unfold fldPut; rw [er]
  rw [e]
  exact q
/-- x.f.append(e), e changing nothing -/
def sAppF (tbl : Str → Str → Bool) (i : Nat) (f : Str) (m : M D) : MS := fun ρ => match fldCt tbl ρ i f with
  | some (.lst _) => sBind m (fun d ρ' => match fldCt tbl ρ' i f with
    | some (.lst ds) => if ds.length < lim then .next (fldPut ρ' i f (.ct (.lst (ds ++ [d])))) else .bad
    | _ => .bad) ρ
  | _ => .bad
theorem dS_appF {m : M D} {pf : Pos} (ht : FieldsOk (kx X) tbl) (h : ∀ ta t, PE X (.Attribute (.Name x px) f pf) ta → PA X [e] t → PS X st (tDrop (tBM X.K "list" rAppend ta t))) (hi : PE X (.Name x px) (tVar i)) (hb : attributeBase (.Name x px) f X.env (eval (.Name x px) X.env) = eval (.Name x px) X.env) (he : PE X e (tV (kx X) W true m))
    (hs : starEach [e] X.env = (false, eval e X.env) :: starEach [] X.env := by rfl) : PS X st (tS (kx X) W mu (sAppF tbl i f m)) :=
  ps_imp (h _ _ (pe_fld hi hb) (pa_cons he pa_nil hs)) fun E σ H ⟨A, F, ρ, g, h⟩ => by
    unfold sAppF at h
    split at h
    · rename_i ds0 e0
      obtain ⟨c, gs, a, C, dx, fs, T, b, er, h1, h2, h3, c1, c2, hA, ws, el, eb, wk, hbT⟩ := fldCt_of ht g e0
      obtain ⟨vs0, w1, w2⟩ := wk
      refine ⟨.ref a, h1, a, C, dx, fs, .ref b, rfl, h2, c1, c2, eb, .inl ⟨rfl, vs0, .inl (.inl w1)⟩, A, F, ρ, [], [], g, h.bind.imp fun d ρ1 h v A1 F1 H1 s1 g1 r => ?_⟩
      have hsame := (s1.pu rfl).1
      split at h
      · rename_i ds1 e1
        obtain ⟨c', gs', a', C', dx', fs', T', b', er', h1', h2', h3', _, _, hA', ws', el', eb', wk', hbT'⟩ := fldCt_of ht g1 e1
        rw [h1] at h1'; cases h1'
        have := hsame _ _ h2
        rw [this] at h2'; cases h2'
        rw [eb] at eb'; cases eb'
        obtain ⟨vs1, w1', w2'⟩ := wk'
        split at h
        · rename_i hl
          obtain ⟨g2, f2⟩ := fld_write (k' := .lst (ds1 ++ [d])) (u := .lst (vs1 ++ [v])) g1 er' h1 this h3' hA' ws' el' eb hbT' ⟨vs1 ++ [v], upd_same, w2'.append (.cons r .nil)⟩
          exact ⟨b, vs1, v, rfl, rfl, w1', by rw [w2'.length, ← lim_eq]; exact hl, h _ _ F1 _ (s1.fr.trans f2) g2 fun _ _ => rfl⟩
        · exact h.elim
      · exact h.elim
    · exact h.elim
def ctO : O → Option Ct
  | .fd (.ct c) => some c
  | _ => none
/-- x.f[k] = e, k changing nothing -/
def sPutF (tbl : Str → Str → Bool) (i : Nat) (f : Str) (mk mv : M D) : MS := sBind mv fun d ρ => match fldCt tbl ρ i f with
  | some _ => sBind mk (fun k ρ' => match fldCt tbl ρ' i f with
    | some c => match (putO (.fd (.ct c)) k d).bind ctO with
      | some c' => .next (fldPut ρ' i f (.ct c'))
      | none => .bad
    | _ => .bad) ρ
  | _ => .bad
theorem dS_putF {mk mv : M D} {pf : Pos} (ht : FieldsOk (kx X) tbl) (h : ∀ td ty tv, PE X (.Attribute (.Name x px) f pf) td → PE X k ty → PE X e tv → PS X st (sDPut td ty tv)) (hi : PE X (.Name x px) (tVar i)) (hb : attributeBase (.Name x px) f X.env (eval (.Name x px) X.env) = eval (.Name x px) X.env) (hk : PE X k (tV (kx X) W true mk)) (he : PE X e (tV (kx X) W q mv)) : PS X st (tS (kx X) W mu (sPutF tbl i f mk mv)) :=
  ps_imp (h _ _ _ (pe_fld hi hb) hk he) fun E σ H ⟨A, F, ρ, g, h⟩ => ⟨A, F, ρ, [], [], g, h.bind.imp fun d ρ1 h v A1 F1 H1 s1 g1 r1 => by
    split at h
    · rename_i c0 e0
      obtain ⟨c, gs, a, C, dx, fs, T, b, er, h1, h2, h3, c1, c2, hA, ws, el, eb, wk, hbT⟩ := fldCt_of ht g1 e0
      refine ⟨.ref a, h1, a, C, dx, fs, .ref b, rfl, h2, c1, c2, eb, A1, F1, ρ1, [], [], g1, (PsO.bind h).step s1.fr |>.imp fun k ρ2 h y A2 F2 H2 s2 g2 r2 => ?_⟩
      have hsame := (s2.pu rfl).1
      split at h
      · rename_i k1 e1
        obtain ⟨c', gs', a', C', dx', fs', T', b', er', h1', h2', h3', _, _, hA', ws', el', eb', wk', hbT'⟩ := fldCt_of ht g2 e1
        rw [h1] at h1'; cases h1'
        have hins := hsame _ _ h2
        rw [hins] at h2'; cases h2'
        rw [eb] at eb'; cases eb'
        split at h
        · rename_i k2 eo
          cases eo2 : putO (.fd (.ct k1)) k d with
          | none => rw [eo2] at eo; cases eo
          | some o' =>
          rw [eo2] at eo
          have eo : ctO o' = some k2 := eo
          unfold putO at eo2
          split at eo2
          · rename_i ks vs kd hz
            cases hz
            split at eo2
            · rename_i k' ek
              split at eo2
              · rename_i hl
                cases eo2
                cases eo
                obtain ⟨kvs, w3, rfl, w5⟩ := wk'
                have hk := key_v r2 ek
                subst hk
                have hv' := r1.mono s2.fr.grow
                obtain ⟨g3, f3⟩ := fld_write (k' := .dk (putKs (kvs.map (·.1)) k') (putVs (kvs.map (·.1)) _ k' d)) (u := .dK (putK kvs k' v)) g2 er' h1 hins h3' hA' ws' el' eb hbT' ⟨putK kvs k' v, upd_same, putK_fst kvs k' v, putK_reps hv' k' w5⟩
                exact ⟨b, _, rfl, DPut.k w3 (by rw [← lim_eq]; simpa using hl), h _ _ F2 _ ((s1.fr.trans s2.fr).trans f3) g3 fun _ _ => rfl⟩
              · cases eo2
            · cases eo2
          · rename_i ks vs kd hz
            cases hz
            split at eo2
            · rename_i k' ek
              split at eo2
              · rename_i hl
                cases eo2
                cases eo
                obtain ⟨kvs, w3, rfl, w5⟩ := wk'
                obtain ⟨bt, wt, rfl, hbt, rb⟩ := r2.tup_v
                have hk := keys_v rb ek
                subst hk
                have hv' := r1.mono s2.fr.grow
                obtain ⟨g3, f3⟩ := fld_write (k' := .dt (putKs (kvs.map (·.1)) k') (putVs (kvs.map (·.1)) vs k' d)) (u := .dT (putK kvs k' v)) g2 er' h1 hins h3' hA' ws' el' eb hbT' ⟨putK kvs k' v, upd_same, putK_fst kvs k' v, putK_reps hv' k' w5⟩
                exact ⟨b, _, rfl, DPut.t w3 (g2.fh _ _ hbt) (by rw [← lim_eq]; simpa using hl), h _ _ F2 _ ((s1.fr.trans s2.fr).trans f3) g3 fun _ _ => rfl⟩
              · cases eo2
            · cases eo2
          · cases eo2
        · exact h.elim
      · exact h.elim
    · exact h.elim⟩
/-- x.f as a value: a cell there is frozen -/
def mFldV (tbl : Str → Str → Bool) (i : Nat) (f : Str) : M D := fun ρ => match fldCt tbl ρ i f with
  | some k => .ok k.toD (fldPut ρ i f (.sh k.toD))
  | none => mBind (mBind (mNameB i) (fieldOf tbl f)) asSh ρ
theorem dV_fldX {pf : Pos} (ht : FieldsOk (kx X) tbl) (hi : PE X (.Name x px) (tVar i)) (hb : attributeBase (.Name x px) f X.env (eval (.Name x px) X.env) = eval (.Name x px) X.env := by rfl) : PE X (.Attribute (.Name x px) f pf) (tV (kx X) W false (mFldV tbl i f)) :=
  pe_imp (pe_either (pe_fld hi hb) (dV_B (dB_fld ht (dB_name hi) hb))) fun σ H Q ⟨A, F, ρ, τ, υ, g, h⟩ => by
    unfold mFldV at h
    split at h
    · rename_i k e0
      left
      obtain ⟨c, gs, a, C, dx, fs, T, b, er, h1, h2, h3, c1, c2, hA, ws, el, eb, wk, hbT⟩ := fldCt_of ht g e0
      refine ⟨.ref a, h1, a, C, dx, fs, .ref b, rfl, h2, c1, c2, eb, ?_⟩
      let F' : Hp := fun z => if z = b then H z else F z
      have hbF : F b = none := g.ff (.s i) b (by rw [hA]; exact List.mem_cons_of_mem _ hbT)
      have eF : Same F F' := fun z u e => by
        show (if z = b then H z else F z) = some u
        by_cases q : z = b
        · subst q; rw [hbF] at e; cases e
        · rw [if_neg q]; exact e
      have rk : Rep (kx X) F' (.ref b) k.toD := wk.rep eF (if_pos rfl)
      have hnd := g.nd (.s i)
      rw [hA] at hnd
      obtain ⟨na, nT⟩ := List.nodup_cons.mp hnd
      obtain ⟨T', o1, o2, o3, o4⟩ := ownFs_frz (F' := F') eF rk ws nT el eb
      have ep : fldPut ρ i f (.sh k.toD) = ρ.set i (some (.rc (.ob c (fs.map (·.1))) (putG f (.sh k.toD) (fs.map (·.1)) gs))) := by
        unfold fldPut; rw [er]
      have sub : ∀ y z, z ∈ upA A (.s i) (a :: T') y → z ∈ A y ∧ z ≠ b := fun y z hz => by
        by_cases q : y = .s i
        · subst q
          rw [upA_same] at hz
          rcases List.mem_cons.mp hz with rfl | hz
          · exact ⟨by rw [hA]; exact List.mem_cons_self, fun q => na (q ▸ hbT)⟩
          · exact ⟨by rw [hA]; exact List.mem_cons_of_mem _ (o4 z hz).1, (o4 z hz).2⟩
        · rw [upA_ne q] at hz
          exact ⟨hz, fun w => g.dj y (.s i) z q hz (by rw [hA, w]; exact List.mem_cons_of_mem _ hbT)⟩
      have g2 : G (kx X) (upA A (.s i) (a :: T')) F' H (fldPut ρ i f (.sh k.toD)) σ τ υ := by
        rw [ep]
        refine ⟨by simp [g.len], g.lent, fun y u e => ?_, fun y => ?_, fun y z w n hy hz => g.dj y z w n (sub y w hy).1 (sub z w hz).1, fun y z hz => ?_, fun y z hz => g.ft y z (sub y z hz).1, fun z u e => ?_⟩
        · by_cases q : y = .s i
          · subst q
            rw [setO.1 u e, upA_same]
            exact ⟨.ref a, by simp [atV, h1], .ob h2 h3 o1⟩
          · obtain ⟨v', p1, p2⟩ := g.own y u (setO.2 y u q e)
            exact ⟨v', p1, by rw [upA_ne q]; exact p2.mono eF fun _ _ _ q => q⟩
        · by_cases q : y = .s i
          · subst q
            rw [upA_same]
            exact List.nodup_cons.mpr ⟨fun z => na (o4 a z).1, o3⟩
          · rw [upA_ne q]; exact g.nd y
        · show (if z = b then H z else F z) = none
          rw [if_neg (sub y z hz).2]
          exact g.ff y z (sub y z hz).1
        · have e : (if z = b then H z else F z) = some u := e
          split at e
          · exact e
          · exact g.fh z u e
      have f2 : Fr A F H (upA A (.s i) (a :: T')) F' H := ⟨fun _ _ e _ => e, fun _ e => e, fun y z hz => .inl ⟨y, (sub y z hz).1⟩, eF, fun z e => by
        have e : (if z = b then H z else F z) ≠ none := e
        by_cases q : z = b
        · subst q
          exact .inr (.inr ⟨.s i, by rw [hA]; exact List.mem_cons_of_mem _ hbT⟩)
        · rw [if_neg q] at e; exact .inl e⟩
      exact h _ _ F' H (.no f2) g2 rk
    · right
      exact ⟨A, F, ρ, τ, υ, g, h.imp fun d ρ' h v A' F' H' s' g' r' => h v A' F' H' (.no s'.fr) g' r'⟩
end
end DL

end

section
set_option Elab.async false
set_option linter.all false
set_option maxRecDepth 100000
/-! EX, part D: repr. -/
namespace DL
open PySem L2 RZ PyProof.Rows

def showOk (p : PyData) : Bool := p.showable && (decide (p.shown.length ≤ lim) && decide (p.depth ≤ 100))
def reprD (d : D) : Option O := match toPy d with
  | some p => if showOk p = true then some (.sh (.str p.shown)) else none
  | none => none
mutual
theorem toPy_noDict : ∀ {d : D} {p : PyData}, toPy d = some p → p.hasDict = false
  | .non, _, e => by simp only [toPy] at e; cases e; rfl
  | .bl _, _, e => by simp only [toPy] at e; cases e; rfl
  | .int _, _, e => by simp only [toPy] at e; cases e; rfl
  | .str _, _, e => by simp only [toPy] at e; cases e; rfl
  | .tup xs, _, e => by
    simp only [toPy] at e
    split at e
    · rename_i ys ey; cases e; simp only [PyData.hasDict]; exact toPys_noDict ey
    · cases e
  | .lst xs, _, e => by
    simp only [toPy] at e
    split at e
    · rename_i ys ey; cases e; simp only [PyData.hasDict]; exact toPys_noDict ey
    · cases e
  | .fz _, _, e => by simp only [toPy] at e; cases e
  | .dk _ _, _, e => by simp only [toPy] at e; cases e
  | .dt _ _, _, e => by simp only [toPy] at e; cases e
  | .ob _ _ _, _, e => by simp only [toPy] at e; cases e
theorem toPys_noDict : ∀ {ds : List D} {ps : List PyData}, toPys ds = some ps → PyData.hasDictAll ps = false
  | [], _, e => by simp only [toPys] at e; cases e; rfl
  | x :: xs, _, e => by
    simp only [toPys] at e
    split at e
    · rename_i y ys e1 e2
      cases e
      simp only [PyData.hasDictAll, toPy_noDict e1, toPys_noDict e2, Bool.or_false]
    · cases e
end
def rRepr (K : PySem.W.Frag) : List V → Hp → VK → Prop := fun xs H Q => ∃ x p, xs = [x] ∧ Dp K H x p ∧ p.hasDict = false ∧ showOk p = true ∧ Q (.str p.shown) H
theorem cr_repr {X : Cx} {k : Nat} (hr : Rg k X.A) : CallR X (.builtin "repr") (rRepr X.K) := by
  rintro pins s σ H xs us Q I r ⟨x, p, rfl, hd, hn, ho, q⟩
  obtain ⟨u, rfl, ru⟩ := vals1 r
  unfold showOk at ho
  obtain ⟨h1, h2⟩ := Bool.and_eq_true_iff.mp ho
  obtain ⟨h2, h3⟩ := Bool.and_eq_true_iff.mp h2
  have h2 : p.shown.length ≤ sizeLine := by rw [← lim_eq]; exact of_decide_eq_true h2
  have h3 : p.depth ≤ 100 := of_decide_eq_true h3
  have hu := hr.r.un
  obtain ⟨as, rd⟩ := Dp.reads I p x u hd ru
  have fin : ∀ t, Q (.str p.shown) H → EP X pins σ Q (.str p.shown t) { s with toks := s.toks + 1 } := fun t q => ⟨.str _, H, I.tok _, ⟨_, rfl⟩, q⟩
  cases rd with
  | none => exact PySem.P.repr_of_none (fin _ q)
  | bool b => exact PySem.P.repr_of_bool (fin _ (by simpa only [PyData.shown] using q))
  | int i t => exact PySem.P.repr_of_int (by simpa [PyData.showable] using h1) (fin _ (by simpa only [PyData.shown] using q))
  | str y t => exact PySem.P.repr_of_str (fin _ (by simpa only [PyData.shown] using q)) (by simpa only [PyData.shown] using h2)
  | list a1 a2 a3 a4 => exact repr_of_reads' (.list a1 a2 a3 a4) h1 (PyData.noDict_hsm hn) hr.g (by omega) (fun _ _ e => e) (fun h' u tk hk => ⟨.str _, H, I.kept hk, ⟨_, rfl⟩, q⟩) h2
  | tuple a1 a2 a3 a4 => exact repr_of_reads' (.tuple a1 a2 a3 a4) h1 (PyData.noDict_hsm hn) hr.g (by omega) (fun _ _ e => e) (fun h' u tk hk => ⟨.str _, H, I.kept hk, ⟨_, rfl⟩, q⟩) h2
  | dict a1 a2 a3 a4 a5 => simp [PyData.hasDict] at hn
theorem repr_sem {κ : Kx} : Call1 κ (rRepr κ.K) reprD := by
  intro A F H ρ σ τ υ g o v B w u e Q q
  unfold reprD at e
  split at e
  · rename_i p ep
    split at e
    · rename_i ho
      cases e
      exact ⟨v, p, rfl, (w.repH g.fh).dp ep, toPy_noDict ep, ho, q _ _ (fin_sh g (.str _))⟩
    · cases e
  · cases e

/-! ### when repr tells -/
/-- what repr shows has at most n signs, at most dp deep -/
structure Shw (dp n : Nat) (p : PyData) : Prop where
  s : p.showable = true
  l : p.shown.length ≤ n
  d : p.depth ≤ dp
theorem Shw.mono {dp dp' n n' : Nat} {p : PyData} (h : Shw dp n p) (h1 : dp ≤ dp') (h2 : n ≤ n') : Shw dp' n' p := ⟨h.s, Nat.le_trans h.l h2, Nat.le_trans h.d h1⟩
def RB (dp n : Nat) (d : D) : Prop := ∃ p, toPy d = some p ∧ Shw dp n p
theorem RB.mono {dp dp' n n' : Nat} {d : D} (h : RB dp n d) (h1 : dp ≤ dp') (h2 : n ≤ n') : RB dp' n' d := let ⟨p, e, s⟩ := h; ⟨p, e, s.mono h1 h2⟩
theorem RB.ok {n : Nat} {d : D} (h : RB 100 n d) (hn : n ≤ 16777216) : ∃ x, reprD d = some (.sh (.str x)) := by
  obtain ⟨p, e, s⟩ := h
  refine ⟨p.shown, ?_⟩
  unfold reprD
  rw [e]
  have h2 : decide (p.shown.length ≤ lim) = true := decide_eq_true (Nat.le_trans s.l hn)
  simp [showOk, s.s, h2, s.d]
theorem RB.non : RB 0 4 .non := ⟨.none, by simp only [toPy], rfl, by decide, Nat.le_refl _⟩
theorem RB.bl {b : Bool} : RB 0 5 (.bl b) := ⟨.bool b, by simp only [toPy], rfl, by cases b <;> decide, Nat.le_refl _⟩
theorem log2_1920 {n : Nat} (h : n < 18446744073709551616) : n.log2 < 1920 := Nat.lt_of_lt_of_le (PySem.Flt.log2_lt_of (k := 64) (by decide) h) (by decide)
theorem RB.nat {i : Int} (h0 : 0 ≤ i) (h : i < 10000000000) : RB 0 10 (.int i) := ⟨.int i, by simp only [toPy], by
  simp only [PyData.showable]; exact decide_eq_true (log2_1920 (by omega)), by simp only [PyData.shown]; exact toString_length_le (k := 10) h0 (by decide) h, Nat.le_refl _⟩
theorem piled_le : ∀ {ts : List Str} {n : Nat}, (∀ t ∈ ts, t.length ≤ n) → piled ts ≤ ts.length * (n + 2)
  | [], _, _ => Nat.zero_le _
  | t :: r, n, h => by
    have h1 := h t List.mem_cons_self
    have h2 := piled_le (ts := r) (n := n) fun x hx => h x (List.mem_cons_of_mem _ hx)
    have e : piled (t :: r) = t.length + 2 + piled r := by simp [piled]
    rw [e, List.length_cons, Nat.succ_mul]
    omega
theorem listText_le {ts : List Str} : (listText ts).length ≤ piled ts + 2 := by
  cases ts with
  | nil => decide
  | cons t r =>
    have h := textFrom_length_pos r 1 (("[" : Str) ++ (if (0 : Nat) > 0 then ", " else "" : String) ++ t) (Nat.succ_pos 0)
    have e : ((("[" : Str) ++ (if (0 : Nat) > 0 then ", " else "" : String) ++ t)).length = 1 + t.length := by
      rw [strLen_append, strLen_append]; rfl
    have hX : (listText (t :: r)).length = (textFrom 0 "[" (t :: r)).length + 1 := by
      show (textFrom 0 "[" (t :: r) ++ "]").length = _
      rw [strLen_append]; rfl
    have hY : (textFrom 0 "[" (t :: r)).length = (textFrom 1 (("[" : Str) ++ (if (0 : Nat) > 0 then ", " else "" : String) ++ t) r).length := rfl
    rw [hX, hY, h, e, piled_cons]; omega
theorem tupleText_le {ts : List Str} : (tupleText ts).length ≤ piled ts + 2 := by
  have e : (tupleText ts).length = 1 + (Str.join ", " ts).length + ((if ts.length == 1 then ",)" else ")" : String) : Str).length := by
    unfold tupleText
    rw [strLen_append, strLen_append]
    rfl
  have e2 : ((if ts.length == 1 then ",)" else ")" : String) : Str).length ≤ 2 := by split <;> decide
  by_cases h : ts = []
  · subst h; decide
  · have := join_length_add ts h
    omega
theorem shownAll_map : ∀ (ps : List PyData), PyData.shownAll ps = ps.map PyData.shown
  | [] => rfl
  | p :: ps => by simp only [PyData.shownAll, List.map_cons, shownAll_map ps]
theorem rbAll {dp n : Nat} : ∀ {xs : List D}, (∀ x ∈ xs, RB dp n x) → ∃ ps, toPys xs = some ps ∧ ps.length = xs.length ∧ PyData.showableAll ps = true ∧ PyData.depthAll ps ≤ dp ∧ ∀ p ∈ ps, p.shown.length ≤ n
  | [], _ => ⟨[], by simp only [toPys], rfl, rfl, Nat.zero_le _, fun _ h => absurd h (by simp)⟩
  | x :: xs, h => by
    obtain ⟨p, e, s⟩ := h x List.mem_cons_self
    obtain ⟨ps, e2, h1, h2, h3, h4⟩ := rbAll fun y hy => h y (List.mem_cons_of_mem _ hy)
    refine ⟨p :: ps, by simp only [toPys, e, e2], by simp [h1], by simp only [PyData.showableAll, s.s, h2, Bool.and_self], by simp only [PyData.depthAll]; exact Nat.max_le.mpr ⟨s.d, h3⟩, fun q hq => ?_⟩
    rcases List.mem_cons.mp hq with rfl | hq
    · exact s.l
    · exact h4 q hq
theorem piled_all {ps : List PyData} {n k : Nat} (hl : ps.length ≤ k) (h : ∀ p ∈ ps, p.shown.length ≤ n) : piled (PyData.shownAll ps) ≤ k * (n + 2) := by
  rw [shownAll_map]
  refine Nat.le_trans (piled_le (n := n) fun t ht => ?_) (by rw [List.length_map]; exact Nat.mul_le_mul_right _ hl)
  obtain ⟨p, hp, rfl⟩ := List.mem_map.mp ht
  exact h p hp
theorem RB.tup {dp n k : Nat} {xs : List D} (hl : xs.length ≤ k) (h : ∀ x ∈ xs, RB dp n x) : RB (dp + 1) (k * (n + 2) + 2) (.tup xs) := by
  obtain ⟨ps, e, h1, h2, h3, h4⟩ := rbAll h
  refine ⟨.tuple ps, by simp only [toPy, e], by simpa only [PyData.showable] using h2, ?_, by simp only [PyData.depth]; omega⟩
  simp only [PyData.shown]
  exact Nat.le_trans tupleText_le (Nat.add_le_add_right (piled_all (by omega) h4) 2)
theorem RB.lst {dp n k : Nat} {xs : List D} (hl : xs.length ≤ k) (h : ∀ x ∈ xs, RB dp n x) : RB (dp + 1) (k * (n + 2) + 2) (.lst xs) := by
  obtain ⟨ps, e, h1, h2, h3, h4⟩ := rbAll h
  refine ⟨.list ps, by simp only [toPy, e], by simpa only [PyData.showable] using h2, ?_, by simp only [PyData.depth]; omega⟩
  simp only [PyData.shown]
  exact Nat.le_trans listText_le (Nat.add_le_add_right (piled_all (by omega) h4) 2)
/-! ### == of texts -/
def eqS : D → D → Option O
  | .str x, .str y => some (.sh (.bl (decide (x = y))))
  | _, _ => none
def neS : D → D → Option O
  | .str x, .str y => some (.sh (.bl (!decide (x = y))))
  | _, _ => none
theorem dec_strV {x y : Str} : decide (V.str x = V.str y) = decide (x = y) := by
  rw [Bool.eq_iff_iff]
  simp
theorem eqS_sem {κ : Kx} : Op2 κ rEq eqS := by
  intro A F H ρ σ τ υ g o1 o2 v1 v2 B1 B2 w1 w2 o e Q q
  unfold eqS at e
  split at e
  · rename_i x y e1 e2
    cases e
    have h1 := w1.str_v e1 g.fh
    have h2 := w2.str_v e2 g.fh
    subst h1; subst h2
    refine ⟨rfl, ?_⟩
    rw [dec_strV]
    exact q _ _ (fin_sh g (.bl _))
  · cases e
theorem neS_sem {κ : Kx} : Op2 κ rNe neS := by
  intro A F H ρ σ τ υ g o1 o2 v1 v2 B1 B2 w1 w2 o e Q q
  unfold neS at e
  split at e
  · rename_i x y e1 e2
    cases e
    have h1 := w1.str_v e1 g.fh
    have h2 := w2.str_v e2 g.fh
    subst h1; subst h2
    refine ⟨rfl, ?_⟩
    rw [dec_strV]
    exact q _ _ (fin_sh g (.bl _))
  · cases e
theorem neS_self (x : Str) : neS (.str x) (.str x) = some (.sh (.bl false)) := by simp [neS]
theorem eqS_self (x : Str) : eqS (.str x) (.str x) = some (.sh (.bl true)) := by simp [eqS]
end DL

end

section
set_option Elab.async false
set_option linter.all false
set_option maxRecDepth 100000
/-! EX, part E: enumerate over a tuple. -/
namespace DL
open PySem
open PySem.Sem (wp)
open AutoSeq1 (wpAny_loadPart')

theorem ent_new (l : Addr) (items : Array Value) (n : Nat) (dct : Option Addr) (sl : Array (Option Value)) :
    Meets (Builtin.«enumerate.__new__» ⟨[.type "enumerate", .ref l], []⟩) (fun _ R s => s.heap.get? l = some { cls := .type "tuple", dict := dct, data := .seq items n, slots := sl } ∧
      R (.ok (.ret (.ref (s.heap.push { cls := .type "tuple_iterator", data := .fields #[.ref l, .int 0 0] }).objs.size)))
        { s with heap := (s.heap.push { cls := .type "tuple_iterator", data := .fields #[.ref l, .int 0 0] }).push { cls := .type "enumerate", data := .fields #[.none, .bool false, .ref s.heap.objs.size, rawInt 0, .none, .none] } }) :=
  .of_wp fun prog w A R s h => by
    obtain ⟨hp, g, d, tk, os⟩ := s; obtain ⟨hl, h⟩ := h
    have hsub := sub_enumerate
    have hT : Heap.IsTuple (Shared.heap ⟨hp, g, d, tk, os⟩) l items := ⟨_, hl, rfl, n, rfl⟩
    wp_walk using wpAny_loadPart' hl
    refine wpAny_stack_any fun st => wpAny_pure ?_
    split
    · rename_i c _ _ _ _ _
      cases (c == Value.type "enumerate")
      · wp_walk using wpAny_loadPart' hl, wpAny_pyIter_tuple hT
        exact ⟨_, rfl, h⟩
      · wp_walk using wpAny_loadPart' hl, wpAny_pyIter_tuple hT
        exact ⟨_, rfl, h⟩
    · wp_walk using wpAny_loadPart' hl, wpAny_pyIter_tuple hT
      exact ⟨_, rfl, h⟩
section
variable {prog : Program} {w : World} {A : Around} {E : Value → Shared → Prop} {s : Shared}
theorem ent_call {l : Addr} {items : Array Value} {Q : Value → Shared → Prop} (hL : s.heap.IsTuple l items)
    (h : ∀ h', IsEnum h' (s.heap.objs.size + 1) s.heap.objs.size 0 .none → h'.IsTupleIter s.heap.objs.size l 0 → h'.objs.size = s.heap.objs.size + 2 →
      (∀ b o, s.heap.get? b = some o → h'.get? b = some o) → Q (.ref (s.heap.objs.size + 1)) { s with heap := h' }) :
    wpAny (model prog w) A (call (.type "enumerate") [.ref l]) Q E s := by
  obtain ⟨⟨c, dct, dt, sl⟩, hl, hc, n, hd⟩ := hL
  replace hc : c = .type "tuple" := hc
  replace hd : dt = .seq items n := hd
  subst hc hd
  refine callType_new F.called_enumerate (by decide) (F.typeCall_enumerate_1 _) (F.newCall_enumerate_1 _) (fun obj => F.args_object_init_2 obj _) F.entry_enumerate_new
    (ent_new l items n dct sl) ⟨hl, ?_⟩
  have hz : (s.heap.push { cls := .type "tuple_iterator", data := .fields #[.ref l, .int 0 0] }).objs.size = s.heap.objs.size + 1 := Heap.size_push ..
  show _ ∧ _
  rw [hz]
  have he : IsEnum ((s.heap.push { cls := .type "tuple_iterator", data := .fields #[.ref l, .int 0 0] }).push
      { cls := .type "enumerate", data := .fields #[.none, .bool false, .ref s.heap.objs.size, rawInt 0, .none, .none] }) (s.heap.objs.size + 1) s.heap.objs.size 0 .none := by
    have := Heap.get?_push_size (s.heap.push { cls := .type "tuple_iterator", data := .fields #[.ref l, .int 0 0] })
      (o := { cls := .type "enumerate", data := .fields #[.none, .bool false, .ref s.heap.objs.size, rawInt 0, .none, .none] }) rfl
    rw [hz] at this; exact this
  refine ⟨⟨_, he, rfl⟩, h _ he ⟨_, Heap.get?_push_of_some _ (Heap.get?_push_size _ rfl), rfl, rfl⟩ (by rw [Heap.size_push, hz]) fun b o x => Heap.get?_push_of_some _ (Heap.get?_push_of_some _ x)⟩
theorem ent_end {e it l : Addr} {i : Nat} {items : Array Value} {old : Value} {Q : Option Value → Shared → Prop} (hh : A.handled = none)
    (he : IsEnum s.heap e it i old) (hit : s.heap.IsTupleIter it l i) (hl : s.heap.IsTuple l items) (hx : items[i]? = none)
    (hQ : ∀ h', Heap.ExtBut it s.heap h' → Q none { s with heap := h' }) : wpAny (model prog w) A (pyNext (.ref e)) Q E s := by
  have hT : s.TypeIs (.ref e) "enumerate" := ⟨_, he, rfl⟩
  unfold pyNext
  refine wpAny_bind (wpAny_attempt (wpAny_callSpecial?_slot (name := Str.ofString "__next__") hT F.slot_enumerate_next
    (wpAny_call_entry F.slot_enumerate_next hT F.entry_enumerate_next ?_ (F.args_enumerate_next_1 _))))
  show wpAny _ _ (field (.ref e) 2 >>= _) _ _ _
  refine wpAny_bind (wpAny_field he rfl (x := .ref it) rfl ?_)
  refine wpAny_bind (RZ.nextOf_tuple_end hh hit hl hx fun h' x he' hx' => ?_)
  obtain ⟨o, ho, hc⟩ := hx'
  refine wpAny_bind (wpAny_isInstance (T := "StopIteration") (b := true) ⟨o, ho, hc⟩ isSubtype_stop ?_)
  exact wpAny_pure (hQ _ he')
end
open L2 RZ PyProof.Rows
theorem isTuple_of {h : Heap} {a : Addr} {items : Array Value} (p : IsTup h a items) : h.IsTuple a items := by
  obtain ⟨o, h1, h2, n, h3⟩ := p
  exact ⟨o, h1, h2, n, h3⟩
/-- the tuple at a, each item in a new pair -/
def ItE (K : PySem.W.Frag) (a : Addr) : It :=
  ⟨fun i H => ∃ (xs : List V) (x : V), SqT K H a xs ∧ xs[i]? = some x, fun i H v H' => ∃ T x, v = .ref T ∧ H T = none ∧ H' = upd H T (.tup [.int (i : Nat), x]) ∧ ∀ xs, SqT K H a xs → xs[i]? = some x, fun i H => ∃ xs : List V, SqT K H a xs ∧ xs.length ≤ i⟩
theorem turn_ent {P : Program} {w : World} {K : PySem.W.Frag} {elts : List Expr} {kk : Nat} {tpos : Pos} (a e it : Addr) :
    Turn P w K (.Tuple elts kk tpos) (ItE K a) [e, it] e (fun i h => (∃ old, IsEnum h e it ((i : Nat) : Int) old) ∧ h.IsTupleIter it a i ∧ e ≠ it ∧ a ≠ e ∧ a ≠ it) where
  mem := by simp
  obj := fun i h st b hb => by
    obtain ⟨⟨old, he⟩, ⟨o, ho, hc, hd⟩, _⟩ := st
    have e' : b = e ∨ b = it := by simpa using hb
    rcases e' with z | z
    · rw [z]; exact ⟨_, he, fun v q => nomatch q⟩
    · rw [z]; exact ⟨o, ho, fun v q => by rw [hd] at q; cases q⟩
  keep := fun i h h' st k => let ⟨⟨old, he⟩, hi, hne⟩ := st; ⟨⟨old, k e (by simp) _ he⟩, hi.at fun o q => k it (by simp) o q, hne⟩
  item := by
    intro X hP hw hK hc i pins s σ H E I hf st hg
    subst hP hw hK
    obtain ⟨⟨old, he⟩, hit, hne, hae, hai⟩ := st
    obtain ⟨xs, x, hq, hx⟩ := hg
    obtain ⟨its, rv, p, hz⟩ := I.tuple hq
    obtain ⟨u, hu, ru⟩ := rv.get hx
    have hel : e < s.heap.objs.size := Heap.lt_size he
    have hil : it < s.heap.objs.size := by obtain ⟨_, q, _⟩ := hit; exact Heap.lt_size q
    have hsz : i < its.toArray.size := by
      have := (List.getElem?_eq_some_iff.mp hu).1
      simpa using this
    refine wpAny_pyNext_enum_itemD (Draws.tuple (A := X.A.in1) (I.ok.hd hc) it a hai its.toArray) he ⟨hit, isTuple_of p⟩ hsz hne (by simp [hne, Ne.symm hae]) fun y h' tk hy ho hit' hT hsz' hk => ?_
    have hy' : y = u := by
      have hy : its.toArray[i]? = some y := hy
      simp at hy
      rw [hu] at hy; cases hy; rfl
    subst hy'
    refine ⟨_, rfl, wpAny_letOwnedTupleGo_enum (s := { s with heap := h', toks := tk + 1 }) ho fun h'' he' sb => ?_⟩
    have hT2 : h''.get? s.heap.objs.size = some { cls := .type "tuple", data := .seq #[.int i tk, y] } := (sb.2 _ (Nat.ne_of_gt hel)).trans hT
    have new : ObjOk X.prog X.w (upd H s.heap.objs.size (.tup [.int (i : Nat), x])) h'' s.heap.objs.size (.tup [.int (i : Nat), x]) :=
      ⟨by show 2 ≤ sizeLine; decide, [.int i tk, y], .cons ⟨_, rfl⟩ (.cons ru .nil), ⟨_, hT2, rfl, _, rfl⟩⟩
    have I1 : Inv X pins σ (upd H s.heap.objs.size (.tup [.int (i : Nat), x])) { s with heap := h'', toks := tk + 1 } :=
      I.turnedNew (ch := [e, it]) (fun b ob hb q => (sb.2 b (fun z => hb (by simp [z]))).trans (hk b ob (fun z => hb (by simp [z])) (fun z => hb (by simp [z])) q)) hf (Nat.le_refl _) new
    refine ⟨.ref s.heap.objs.size, _, I1, rfl, ⟨_, x, rfl, I.hok.fresh (Nat.le_refl _), rfl, fun ys hy => by rw [I.tuple_inj hy hq]; exact hx⟩, ⟨⟨y, ?_⟩, hit'.1.at fun o q => (sb.2 it (Ne.symm hne)).trans q, hne, hae, hai⟩, fun b hb => ?_⟩
    · have e1 : ((i + 1 : Nat) : Int) = (i : Int) + 1 := by omega
      rw [e1]; exact he'
    · have hb' : b < s.heap.objs.size := by
        have e' : b = e ∨ b = it := by simpa using hb
        rcases e' with z | z
        · rw [z]; exact hel
        · rw [z]; exact hil
      rw [upd_ne (Nat.ne_of_lt hb')]
      exact (hf b hb).1
  done := by
    intro X hP hw hK hc i pins s σ H E I hf st hg
    subst hP hw hK
    obtain ⟨⟨old, he⟩, hit, hne, hae, hai⟩ := st
    obtain ⟨xs, hq, hx⟩ := hg
    obtain ⟨its, rv, p, hz⟩ := I.tuple hq
    obtain ⟨f0, f1, f2, f3, f4, f5⟩ := hf it (by simp)
    have hl := rv.length
    exact ent_end (I.ok.hd hc) he hit (isTuple_of p) (by simp; omega) fun h' eb => ⟨rfl, I.turned (t' := s.toks) (fun b o hb q => eb b o hb q) f0 f1 f3 f4 f5⟩
  self := fun A i s Q E st h => let ⟨⟨_, he⟩, _⟩ := st; wpAny_pyIter_enum he h
def iEnt (K : PySem.W.Frag) (ta : TA) : TI := fun σ H R => ta σ H fun vs H1 => ∃ a xs, vs = [.ref a] ∧ ((SqL K H1 a xs ∧ R (Ite K a) H1) ∨ (SqT K H1 a xs ∧ R (ItE K a) H1))
theorem pi_ent {X : Cx} {e : Expr} {ta : TA} {p pos tpos : Pos} {elts : List Expr} {kk : Nat} (hg : Gl X "enumerate") (hm : X.mg "enumerate" = none) (ha : PA X [e] ta) (hs : starEach [e] X.env = [(false, eval e X.env)] := by rfl) :
    PI X (.Tuple elts kk tpos) (.Call (.Name "enumerate" p) [e] [] pos) (iEnt X.K ta) := by
  refine ⟨fun pins s σ H R I h => ?_⟩
  refine Call_ (ld_blt I hg hm boot_enumerate (PyProof.Rows.callWith_type1 (thn (ha.run pos pins s σ H _ I h) fun us s1 ⟨vs, H1, I1, r1, q1⟩ => ?_) hs rfl))
  obtain ⟨a, xs, ex, hq⟩ := q1
  subst ex
  cases r1 with
  | cons r rr =>
    cases rr
    cases r
    have fr : ∀ b ∈ [s1.heap.objs.size + 1, s1.heap.objs.size], FpOk X pins H1 b := fun b hb => by
      have e' : b = s1.heap.objs.size + 1 ∨ b = s1.heap.objs.size := by simpa using hb
      have hle : s1.heap.objs.size ≤ b := by
        rcases e' with z | z
        · rw [z]; exact Nat.le_add_right _ _
        · rw [z]; exact Nat.le_refl _
      exact I1.fpOk hle (I1.hok.fresh hle)
    rcases hq with ⟨hq, q⟩ | ⟨hq, q⟩
    · obtain ⟨its, rv, p', hz⟩ := I1.list hq
      refine call_enumerate_list p'.isList fun h' he hit hsz hk => wpAny_pyIter_enum he ?_
      have I2 : Inv X pins σ H1 { s1 with heap := h' } := I1.kept (t' := s1.toks) hk
      exact ⟨s1.heap.objs.size + 1, [s1.heap.objs.size + 1, s1.heap.objs.size], _, _, H1, rfl, I2, turn_enum a (s1.heap.objs.size + 1) s1.heap.objs.size, ⟨⟨.none, he⟩, hit, Nat.succ_ne_self _⟩, fr, q⟩
    · obtain ⟨its, rv, p', hz⟩ := I1.tuple hq
      have hal : a < s1.heap.objs.size := by obtain ⟨_, q, _⟩ := isTuple_of p'; exact Heap.lt_size q
      refine ent_call (isTuple_of p') fun h' he hit hsz hk => wpAny_pyIter_enum he ?_
      have I2 : Inv X pins σ H1 { s1 with heap := h' } := I1.kept (t' := s1.toks) hk
      exact ⟨s1.heap.objs.size + 1, [s1.heap.objs.size + 1, s1.heap.objs.size], _, _, H1, rfl, I2, turn_ent a (s1.heap.objs.size + 1) s1.heap.objs.size, ⟨⟨.none, he⟩, hit, Nat.succ_ne_self _, Nat.ne_of_lt (Nat.lt_succ_of_lt hal), Nat.ne_of_lt hal⟩, fr, q⟩
theorem jok_ent {κ : Kx} {F : Hp} {a : Addr} {vs : List V} {ds : List D} (h : F a = some (.tup vs)) (r : Reps κ F vs ds) : JOk κ (ItE κ.K a) F (enumD 0 ds) where
  go := fun i F1 H1 e1 e2 hi => by
    rw [enumD_len] at hi
    have hi' : i < vs.length := by rw [r.length]; exact hi
    exact ⟨vs, vs[i], SqT.of (e2 _ _ (e1 _ _ h)), by simp [hi']⟩
  yld := fun i d A F1 H1 ρ σ τ υ x H2 e1 g ed ⟨T, u, ex, hT, eH, y⟩ => by
    subst ex eH
    obtain ⟨w, h1, rfl⟩ := enumD_get ed
    obtain ⟨v, h3, h4⟩ := r.get i h1
    have := y vs (SqT.of (g.fh _ _ (e1 _ _ h)))
    rw [h3] at this; cases this
    rw [Nat.zero_add]
    exact new_tup g hT (.cons (.int _) (.cons (h4.mono e1) .nil))
  stop := fun i F1 H1 e1 e2 hi => by
    rw [enumD_len] at hi
    exact ⟨vs, SqT.of (e2 _ _ (e1 _ _ h)), by rw [r.length]; exact hi⟩
def enumA : List D → M (List D)
  | [.lst xs] => mPure (enumD 0 xs)
  | [.tup xs] => mPure (enumD 0 xs)
  | _ => fun _ => .bad
section
variable {X : Cx} {W : WX'} {p : Bool} {tg e : Expr}
theorem dI_enumA {ms : M (List D)} (h : PI X tg e (iEnt X.K (tVs (kx X) W p ms))) : PI X tg e (tIt (kx X) W p (mBind ms enumA)) :=
  pi_imp h fun σ H R ⟨A, F, ρ, τ, υ, g, h⟩ => ⟨A, F, ρ, τ, υ, g, h.bind.imp fun ds ρ' h vs A' F' H' s g' r => by
    unfold enumA at h
    split at h
    · cases r with
      | cons r r2 =>
        cases r2
        obtain ⟨c, vs, rfl, h2, h3⟩ := r.lst_v
        exact ⟨c, vs, rfl, .inl ⟨SqL.of (g'.fh _ _ h2), h _ A' F' H' s g' (jok_enum h2 h3)⟩⟩
    · cases r with
      | cons r r2 =>
        cases r2
        obtain ⟨c, vs, rfl, h2, h3⟩ := r.tup_v
        exact ⟨c, vs, rfl, .inr ⟨SqT.of (g'.fh _ _ h2), h _ A' F' H' s g' (jok_ent h2 h3)⟩⟩
    · exact h.elim⟩
end
end DL

end

section
set_option Elab.async false
set_option linter.all false
set_option maxRecDepth 100000
/-! EX, part F: dicts: new ones, asked, walked by sorted and list, made of pairs. -/
namespace DL
open PySem L2 RZ PyProof.Rows

/-! ### {} -/
def mNewK : M O := mPure (.fd (.ct (.dk [] [])))
def mNewT : M O := mPure (.fd (.ct (.dt [] [])))
section
variable {X : Cx} {κ : Kx} {W : WX'} {pos : Pos}
theorem dE_newK : PE X (.Dict [] [] pos) (tE κ W true mNewK) := pe_imp pe_dnewK fun σ H Q ⟨A, F, ρ, τ, υ, g, h⟩ p hp => by
  obtain ⟨g2, f2⟩ := g.pushNew (r := .fd (.ct (.dk [] []))) (o := .dK []) hp rfl (.fd (.ct ⟨[], upd_same, rfl, .nil⟩))
  exact h _ _ _ _ ⟨f2, fun _ => ⟨same_new hp, fun i q => ⟨q, fun b hb => by rw [upA_t]; exact hb⟩⟩⟩ g2
theorem dE_newT : PE X (.Dict [] [] pos) (tE κ W true mNewT) := pe_imp pe_dnewT fun σ H Q ⟨A, F, ρ, τ, υ, g, h⟩ p hp => by
  obtain ⟨g2, f2⟩ := g.pushNew (r := .fd (.ct (.dt [] []))) (o := .dT []) hp rfl (.fd (.ct ⟨[], upd_same, rfl, .nil⟩))
  exact h _ _ _ _ ⟨f2, fun _ => ⟨same_new hp, fun i q => ⟨q, fun b hb => by rw [upA_t]; exact hb⟩⟩⟩ g2
end

/-! ### what a dict holds -/
def dgetO : O → D → Option (Option D)
  | .fd (.ct (.dk ks vs)), k | .fd (.sh (.dk ks vs)), k => match keyD k with
    | some k => some (lookK ks vs k)
    | none => none
  | .fd (.ct (.dt ks vs)), .tup k | .fd (.sh (.dt ks vs)), .tup k => match keysD k with
    | some k => some (lookK ks vs k)
    | none => none
  | _, _ => none
theorem dgetO_of {κ : Kx} {A : Fp} {F H : Hp} {ρ : Env} {σ : L2.St} {τ : List O} {υ : List V} (g : G κ A F H ρ σ τ υ) {o : O} {v : V} {B : List Addr} (w : Own κ F H o v B) {y : V} {k : D} (ry : Rep κ H y k) {r : Option D} (e : dgetO o k = some r) :
    ∃ a rv, v = .ref a ∧ DGet H a y rv ∧ (∀ d, r = some d → ∃ u, rv = some u ∧ Rep κ F u d) ∧ (r = none → rv = none) := by
  unfold dgetO at e
  split at e
  · rename_i ks vs k
    obtain ⟨a, rfl, _, kvs, h1, rfl, h3⟩ := w.ct_v
    split at e
    · rename_i k' ek
      cases e
      exact ⟨a, _, rfl, .inl ⟨kvs, k', .inl h1, key_v ry ek, rfl⟩, (val_reps h3).1, (val_reps h3).2⟩
    · cases e
  · rename_i ks vs k
    obtain ⟨a, kvs, rfl, h1, rfl, h3⟩ := w.sh_v.dk_v
    split at e
    · rename_i k' ek
      cases e
      exact ⟨a, _, rfl, .inl ⟨kvs, k', .inl (g.fh _ _ h1), key_v ry ek, rfl⟩, (val_reps h3).1, (val_reps h3).2⟩
    · cases e
  · rename_i ks vs kd
    obtain ⟨a, rfl, _, kvs, h1, rfl, h3⟩ := w.ct_v
    split at e
    · rename_i k' ek
      cases e
      obtain ⟨b, bs, rfl, h4, h5⟩ := ry.tup_v
      have h6 := keys_v h5 ek
      exact ⟨a, _, rfl, .inr ⟨kvs, k', b, .inl h1, rfl, by rw [h4, h6], rfl⟩, (val_reps h3).1, (val_reps h3).2⟩
    · cases e
  · rename_i ks vs kd
    obtain ⟨a, kvs, rfl, h1, rfl, h3⟩ := w.sh_v.dt_v
    split at e
    · rename_i k' ek
      cases e
      obtain ⟨b, bs, rfl, h4, h5⟩ := ry.tup_v
      have h6 := keys_v h5 ek
      exact ⟨a, _, rfl, .inr ⟨kvs, k', b, .inl (g.fh _ _ h1), rfl, by rw [h4, h6], rfl⟩, (val_reps h3).1, (val_reps h3).2⟩
    · cases e
  · cases e
def isDk : O → Bool
  | .fd (.ct (.dk _ _)) | .fd (.sh (.dk _ _)) | .fd (.ct (.dt _ _)) | .fd (.sh (.dt _ _)) => true
  | _ => false
theorem isDk_of {κ : Kx} {A : Fp} {F H : Hp} {ρ : Env} {σ : L2.St} {τ : List O} {υ : List V} (g : G κ A F H ρ σ τ υ) {o : O} {v : V} {B : List Addr} (w : Own κ F H o v B) (h : isDk o = true) : ∃ a, v = .ref a ∧ IsD H a := by
  unfold isDk at h
  split at h
  · obtain ⟨a, rfl, _, kvs, h1, _, _⟩ := w.ct_v
    exact ⟨a, rfl, .inl ⟨kvs, .inl h1⟩⟩
  · obtain ⟨a, kvs, rfl, h1, _, _⟩ := w.sh_v.dk_v
    exact ⟨a, rfl, .inl ⟨kvs, .inl (g.fh _ _ h1)⟩⟩
  · obtain ⟨a, rfl, _, kvs, h1, _, _⟩ := w.ct_v
    exact ⟨a, rfl, .inr ⟨kvs, .inl h1⟩⟩
  · obtain ⟨a, kvs, rfl, h1, _, _⟩ := w.sh_v.dt_v
    exact ⟨a, rfl, .inr ⟨kvs, .inl (g.fh _ _ h1)⟩⟩
  · cases h
/-- d.get(k), d in the slot i -/
def mGet1 (i : Nat) (mk : M D) : M D := fun ρ => match ρ[i]? with
  | some (some o) => if isDk o = true then mBind mk (fun k ρ1 => match ρ1[i]? with
    | some (some o1) => match dgetO o1 k with
      | some r => .ok (r.getD .non) ρ1
      | none => .bad
    | _ => .bad) ρ else .bad
  | _ => .bad
def mGet2 (i : Nat) (mk md : M D) : M D := fun ρ => match ρ[i]? with
  | some (some o) => if isDk o = true then mBind mk (fun k => mBind md fun d ρ1 => match ρ1[i]? with
    | some (some o1) => match dgetO o1 k with
      | some r => .ok (r.getD d) ρ1
      | none => .bad
    | _ => .bad) ρ else .bad
  | _ => .bad
section
variable {X : Cx} {W : WX'} {p q : Bool} {x : Str} {px apos cpos : Pos} {i : Nat} {k e : Expr}
theorem dV_get1 {mk : M D} (hu : X.A.units + 1 < cLine) (hx : PE X (.Name x px) (tVar i)) (hk : PE X k (tV (kx X) W p mk)) (m : M1 X (.Name x px) "get" apos k cpos) :
    PE X (.Call (.Attribute (.Name x px) "get" apos) [k] [] cpos) (tV (kx X) W false (mGet1 i mk)) := pe_imp (pe_dget1 hu hx hk m) fun σ H Q ⟨A, F, ρ, τ, υ, g, h⟩ => by
  unfold mGet1 at h
  split at h
  · rename_i o e0
    split at h
    · rename_i hd
      obtain ⟨v, h1, w⟩ := g.slot e0
      obtain ⟨a, rfl, hD⟩ := isDk_of g w hd
      refine ⟨.ref a, h1, a, rfl, hD, A, F, ρ, τ, υ, g, h.bind.imp fun k ρ1 h y A1 F1 H1 s1 g1 r1 => ?_⟩
      split at h
      · rename_i o1 e1
        split at h
        · rename_i r er
          obtain ⟨v1, h2, w1⟩ := g1.slot e1
          rw [h1] at h2; cases h2
          obtain ⟨a', rv, ea, dg, d1, d2⟩ := dgetO_of g1 w1 (r1.mono g1.fh) er
          cases ea
          refine ⟨rv, dg, h _ A1 F1 H1 (.no s1.fr) g1 ?_⟩
          cases r with
          | none => rw [d2 rfl]; exact .non
          | some d =>
            obtain ⟨u, e2, e3⟩ := d1 d rfl
            rw [e2]; exact e3
        · exact h.elim
      · exact h.elim
    · exact h.elim
  · exact h.elim
theorem dV_get2 {mk md : M D} (hu : X.A.units + 1 < cLine) (hx : PE X (.Name x px) (tVar i)) (hk : PE X k (tV (kx X) W p mk)) (he : PE X e (tV (kx X) W q md)) (m : M2 X (.Name x px) "get" apos k e cpos) :
    PE X (.Call (.Attribute (.Name x px) "get" apos) [k, e] [] cpos) (tV (kx X) W false (mGet2 i mk md)) := pe_imp (pe_dget2 hu hx hk he m) fun σ H Q ⟨A, F, ρ, τ, υ, g, h⟩ => by
  unfold mGet2 at h
  split at h
  · rename_i o e0
    split at h
    · rename_i hd
      obtain ⟨v, h1, w⟩ := g.slot e0
      obtain ⟨a, rfl, hD⟩ := isDk_of g w hd
      refine ⟨.ref a, h1, a, rfl, hD, A, F, ρ, τ, υ, g, h.bind.imp fun k ρ1 h y A1 F1 H1 s1 g1 r1 => ?_⟩
      refine ⟨A1, F1, ρ1, τ, υ, g1, (h.step s1.fr).bind.imp fun d0 ρ2 h z A2 F2 H2 s2 g2 r2 => ?_⟩
      split at h
      · rename_i o1 e1
        split at h
        · rename_i r er
          obtain ⟨v1, h2, w1⟩ := g2.slot e1
          rw [h1] at h2; cases h2
          obtain ⟨a', rv, ea, dg, d1, d2⟩ := dgetO_of g2 w1 ((r1.mono s2.fr.grow).mono g2.fh) er
          cases ea
          refine ⟨rv, dg, h _ A2 F2 H2 (.no (s1.fr.trans s2.fr)) g2 ?_⟩
          cases r with
          | none => rw [d2 rfl]; exact r2
          | some d =>
            obtain ⟨u, e2, e3⟩ := d1 d rfl
            rw [e2]; exact e3
        · exact h.elim
      · exact h.elim
    · exact h.elim
  · exact h.elim
end

/-! ### calls -/
def orE (f f' : D → Option O) (d : D) : Option O := match f d with
  | some o => some o
  | none => f' d
theorem Call1.or {κ : Kx} {r r' : List V → Hp → VK → Prop} {f f' : D → Option O} (h : Call1 κ r f) (h' : Call1 κ r' f') : Call1 κ (fun xs H Q => r xs H Q ∨ r' xs H Q) (orE f f') := by
  intro A F H ρ σ τ υ g o v B w u e Q q
  unfold orE at e
  split at e
  · rename_i o' eo
    cases e
    exact .inl (h A F H ρ σ τ υ g o v B w u eo Q q)
  · exact .inr (h' A F H ρ σ τ υ g o v B w u e Q q)
theorem Own.dk_any {κ : Kx} {F H : Hp} {o : O} {v : V} {B : List Addr} {ks : List Key} {ds : List D} (w : Own κ F H o v B) (e : o.toD = .dk ks ds) (fh : Same F H) : ∃ a kvs, v = .ref a ∧ H a = some (.dK kvs) ∧ kvs.map (·.1) = ks := by
  have r := w.repH fh
  rw [e] at r
  obtain ⟨a, kvs, h1, h2, h3, _⟩ := r.dk_v
  exact ⟨a, kvs, h1, h2, h3⟩
def keyO : Key → D
  | .inl i => .int i
  | .inr x => .str x
theorem reps_keys {κ : Kx} {F : Hp} : ∀ (ks : List Key), Reps κ F (ks.map kV) (ks.map keyO)
  | [] => .nil
  | .inl i :: ks => .cons (.int i) (reps_keys ks)
  | .inr x :: ks => .cons (.str x) (reps_keys ks)
def listDO : D → Option O
  | .dk ks _ => some (.lst (ks.map keyO))
  | _ => none
def rListD : List V → Hp → VK → Prop := fun xs H Q => ∃ (a : Addr) (kvs : List (Key × V)), xs = [.ref a] ∧ Rd H a (.dK kvs) ∧ ∀ p, H p = none → Q (.ref p) (upd H p (.lst (kvs.map fun kv => kV kv.1)))
theorem listDO_sem {κ : Kx} : Call1 κ rListD listDO := by
  intro A F H ρ σ τ υ g o v B w u e Q q
  unfold listDO at e
  split at e
  · rename_i ks ds ek
    cases e
    obtain ⟨a, kvs, rfl, h1, rfl⟩ := w.dk_any ek g.fh
    refine ⟨a, kvs, rfl, .inl h1, fun p hp => q _ _ ?_⟩
    have := reps_keys (κ := κ) (F := F) (kvs.map (·.1))
    rw [List.map_map] at this
    exact fin_lst g hp this
  · cases e
def intKs : List Key → Option (List Int)
  | [] => some []
  | .inl i :: ks => match intKs ks with
    | some ns => some (i :: ns)
    | none => none
  | .inr _ :: _ => none
theorem intKs_of : ∀ {ks : List Key} {ns : List Int}, intKs ks = some ns → ks = ns.map Sum.inl
  | [], _, e => by simp only [intKs] at e; cases e; rfl
  | .inl i :: ks, _, e => by
    simp only [intKs] at e
    split at e
    · rename_i ns en; cases e; rw [intKs_of en]; rfl
    · cases e
  | .inr _ :: _, _, e => by simp only [intKs] at e; cases e
theorem intKs_map : ∀ (ns : List Int), intKs (ns.map Sum.inl) = some ns
  | [] => rfl
  | n :: ns => by simp only [List.map_cons, intKs, intKs_map ns]
def sortDO : D → Option O
  | .dk ks _ => match intKs ks with
    | some ns => if ns.length < 64 then some (intsL (sortI ns)) else none
    | none => none
  | _ => none
def rSortD : List V → Hp → VK → Prop := fun xs H Q => ∃ (a : Addr) (kvs : List (Key × V)) (ks : List Int), xs = [.ref a] ∧ Rd H a (.dK kvs) ∧ kvs.map (·.1) = ks.map Sum.inl ∧ ks.length < 64 ∧
    ∀ (ys : List Int) (p : Addr), ys.Perm ks → ys.Pairwise (· ≤ ·) → H p = none → Q (.ref p) (upd H p (.lst (ys.map V.int)))
theorem sortDO_sem {κ : Kx} : Call1 κ rSortD sortDO := by
  intro A F H ρ σ τ υ g o v B w u e Q q
  unfold sortDO at e
  split at e
  · rename_i ks ds ek
    split at e
    · rename_i ns en
      split at e
      · rename_i hl
        cases e
        obtain ⟨a, kvs, rfl, h1, h2⟩ := w.dk_any ek g.fh
        refine ⟨a, kvs, ns, rfl, .inl h1, h2.trans (intKs_of en), hl, fun ys p hp hw hn => q _ _ ?_⟩
        have := le_eq (hp.trans (sortI_perm ns).symm) hw (sortI_pw ns)
        subst this
        exact fin_lst g hn (reps_ints _)
      · cases e
    · cases e
  · cases e
/-- dict(pairs) -/
def pairsO : List D → Option (List (Key × D))
  | [] => some []
  | .tup [k, v] :: ds => match keyD k, pairsO ds with
    | some k, some ps => some ((k, v) :: ps)
    | _, _ => none
  | _ => none
def mergeO (acc : List Key × List D) (ps : List (Key × D)) : List Key × List D := ps.foldl (fun acc p => (putKs acc.1 p.1, putVs acc.1 acc.2 p.1 p.2)) acc
def dictPO : D → Option O
  | .lst ds => match pairsO ds with
    | some ps => some (.fd (.ct (.dk (mergeO ([], []) ps).1 (mergeO ([], []) ps).2)))
    | none => none
  | _ => none
theorem pairsO_of {κ : Kx} {F : Hp} : ∀ {vs : List V} {ds : List D} {ps : List (Key × D)}, Reps κ F vs ds → pairsO ds = some ps → ∃ (as : List Addr) (kvs : List (Key × V)), vs = as.map V.ref ∧ Paired (fun p kv => F p = some (.tup [kV kv.1, kv.2])) as kvs ∧ kvs.map (·.1) = ps.map (·.1) ∧ Reps κ F (kvs.map (·.2)) (ps.map (·.2))
  | _, [], _, .nil, e => by simp only [pairsO] at e; cases e; exact ⟨[], [], rfl, .nil, rfl, .nil⟩
  | _, d :: ds, _, .cons h r, e => by
    unfold pairsO at e
    split at e
    · rename_i e0; cases e0
    · rename_i k v ds' e0
      cases e0
      split at e
      · rename_i k' ps' ek ep
        cases e
        obtain ⟨as, kvs, h1, h2, h3, h4⟩ := pairsO_of r ep
        obtain ⟨a, ws, rfl, h5, h6⟩ := h.tup_v
        cases h6 with
        | cons ha hr =>
          cases hr with
          | cons hb hr =>
            cases hr
            have hk := key_v ha ek
            subst hk
            exact ⟨a :: as, (k', _) :: kvs, by rw [h1]; rfl, .cons h5 h2, by simp [h3], .cons hb h4⟩
      · cases e
    · cases e
theorem merge_of {κ : Kx} {F : Hp} : ∀ {more : List (Key × V)} {ps : List (Key × D)} {kvs : List (Key × V)} {acc : List Key × List D}, more.map (·.1) = ps.map (·.1) → Reps κ F (more.map (·.2)) (ps.map (·.2)) → kvs.map (·.1) = acc.1 → Reps κ F (kvs.map (·.2)) acc.2 →
    (mergeK kvs more).map (·.1) = (mergeO acc ps).1 ∧ Reps κ F ((mergeK kvs more).map (·.2)) (mergeO acc ps).2
  | [], [], _, _, _, _, h1, h2 => ⟨h1, h2⟩
  | [], _ :: _, _, _, h, _, _, _ => by cases h
  | _ :: _, [], _, _, h, _, _, _ => by cases h
  | (k, v) :: more, (k', d) :: ps, kvs, (ks, ds), h, r, h1, h2 => by
    simp only [List.map_cons, List.cons.injEq] at h
    obtain ⟨rfl, h⟩ := h
    cases r with
    | cons rv r =>
      have h1 : kvs.map (·.1) = ks := h1
      subst h1
      exact merge_of (kvs := putK kvs k v) (acc := (putKs (kvs.map (·.1)) k, putVs (kvs.map (·.1)) ds k d)) h r (putK_fst kvs k v) (putK_reps rv k h2)
def rDictP (K : PySem.W.Frag) : List V → Hp → VK → Prop := fun xs H Q => ∃ (a : Addr) (ps : List Addr) (kvs : List (Key × V)), xs = [.ref a] ∧ SqL K H a (ps.map V.ref) ∧ Paired (fun p kv => SqT K H p [kV kv.1, kv.2]) ps kvs ∧
    ∀ p, H p = none → Q (.ref p) (upd H p (.dK (mergeK [] kvs)))
theorem paired_imp {α β : Type} {R S : α → β → Prop} (i : ∀ a b, R a b → S a b) : ∀ {as : List α} {bs : List β}, Paired R as bs → Paired S as bs
  | _, _, .nil => .nil
  | _, _, .cons h r => .cons (i _ _ h) (paired_imp i r)
theorem dictPO_sem {κ : Kx} : Call1 κ (rDictP κ.K) dictPO := by
  intro A F H ρ σ τ υ g o v B w u e Q q
  unfold dictPO at e
  split at e
  · rename_i ds ed
    split at e
    · rename_i ps ep
      cases e
      obtain ⟨a, vs, rfl, h1, h2⟩ := w.lst_v ed g.fh
      obtain ⟨as, kvs, rfl, h3, h4, h5⟩ := pairsO_of h2 ep
      refine ⟨a, as, kvs, rfl, SqL.of h1, paired_imp (fun p kv h => SqT.of (g.fh _ _ h)) h3, fun p hp => q _ _ ?_⟩
      obtain ⟨m1, m2⟩ := merge_of (kvs := []) (acc := ([], [])) h4 h5 rfl .nil
      obtain ⟨g2, f2⟩ := g.pushNew (r := .fd (.ct (.dk (mergeO ([], []) ps).1 (mergeO ([], []) ps).2))) (o := .dK (mergeK [] kvs)) hp rfl (.fd (.ct ⟨_, upd_same, m1, m2⟩))
      exact ⟨_, F, ⟨f2, fun _ => ⟨same_new hp, fun i q => ⟨q, fun b hb => by rw [upA_t]; exact hb⟩⟩⟩, g2⟩
    · cases e
  · cases e

/-! ### k in d -/
def rDin (neg : Bool) : R2 := fun y x H Q => ∃ a ov, x = .ref a ∧ DGet H a y ov ∧ Q (.bl (ov.isSome != neg)) H
section
variable {X : Cx}
theorem op_din (hu : X.A.units + 1 < cLine) : OpR X (compareOp .In) (rDin false) := by
  rintro pins s σ H y x v u Q I ry rx ⟨a, ov, rfl, g, q⟩
  obtain rfl : u = Value.ref a := rx
  exact d_in hu I g ry fun s3 I3 => ⟨.bl ov.isSome, H, I3, rfl, by simpa using q⟩
theorem op_dnin (hu : X.A.units + 1 < cLine) : OpR X (compareOp .NotIn) (rDin true) := by
  rintro pins s σ H y x v u Q I ry rx ⟨a, ov, rfl, g, q⟩
  obtain rfl : u = Value.ref a := rx
  exact d_notIn hu I g ry fun s3 I3 => ⟨.bl (!ov.isSome), H, I3, rfl, by simpa using q⟩
end
def dinO (neg : Bool) (k d : D) : Option O := match dgetO (.sh d) k with
  | some r => some (.sh (.bl (r.isSome != neg)))
  | none => none
theorem din_sem {κ : Kx} {neg : Bool} : Op2 κ (rDin neg) (dinO neg) := by
  intro A F H ρ σ τ υ g o1 o2 v1 v2 B1 B2 w1 w2 o e Q q
  unfold dinO at e
  split at e
  · rename_i r er
    cases e
    have g' : G κ (fun _ => []) H H ([] : Env) ([] : L2.St) ([] : List O) ([] : List V) := ⟨rfl, rfl, fun x o h => by cases x <;> simp [atO] at h, fun _ => List.nodup_nil, fun _ _ _ _ h => by simp at h, fun _ _ h => by simp at h, fun _ _ h => by simp at h, Same.refl _⟩
    obtain ⟨a, rv, rfl, dg, d1, d2⟩ := dgetO_of g' (.fd (.sh (w2.repH g.fh))) (w1.repH g.fh) er
    have e2 : rv.isSome = r.isSome := by
      cases r with
      | none => rw [d2 rfl]; rfl
      | some d => obtain ⟨u, h, _⟩ := d1 d rfl; rw [h]; rfl
    refine ⟨a, rv, rfl, dg, ?_⟩
    rw [e2]
    exact q _ _ (fin_sh g (.bl _))
  · cases e
def inA (neg : Bool) (x y : D) : Option O := match dinO neg x y with
  | some o => some o
  | none => inO neg x y
theorem inA_sem {κ : Kx} {neg : Bool} : Op2 κ (fun x y H Q => rDin neg x y H Q ∨ rIn κ.K neg x y H Q) (inA neg) := by
  intro A F H ρ σ τ υ g o1 o2 v1 v2 B1 B2 w1 w2 o e Q q
  unfold inA at e
  split at e
  · rename_i o' eo
    cases e
    exact .inl (din_sem A F H ρ σ τ υ g o1 o2 v1 v2 B1 B2 w1 w2 _ eo Q q)
  · exact .inr (in_sem A F H ρ σ τ υ g o1 o2 v1 v2 B1 B2 w1 w2 _ e Q q)
end DL

end

section
set_option Elab.async false
set_option linter.all false
set_option maxRecDepth 100000
/-! EX, part G: what the printed walks use. -/
namespace DL
open PySem L2 RZ PyProof.Rows

theorem huG {A : Around} {k : Nat} (hr : Rg k A) : A.units + 1 < cLine := hu_of hr.r
theorem huG64 {A : Around} {k : Nat} (hr : Rg k A) : A.units + 64 < cLine := hu64 hr.r
/-- a def that can be called by its name -/
structure CalG (P : Program) (w : World) (K : PySem.W.Frag) (mg : Str → Option Value) (base : Heap) (k : Nat) (x : Str) (ps : List Str) (sem : Sem) : Prop where
  ex : ∃ (f : Addr) (fd : FuncData), FnG P w K mg base CX0 k f fd ps (spX ⟨K, mg⟩ ps.length sem) ∧ mg x = some (.ref f) ∧ PySem.W.keepIn K (.ref f) = true ∧ Binds K fd ps []
/-- a class that can be made -/
structure MakG (P : Program) (w : World) (K : PySem.W.Frag) (mg : Str → Option Value) (base : Heap) (k : Nat) (c : Str) (ps : List Str) (sem : Sem) : Prop where
  ex : ∃ (C f : Addr) (fd : FuncData), Mk K C f ∧ FnG P w K mg base CX0 k f fd ps (spX ⟨K, mg⟩ ps.length sem) ∧ mg c = some (.ref C) ∧ Binds K fd ps []
/-- a method that can be called -/
structure MetG (P : Program) (w : World) (K : PySem.W.Frag) (mg : Str → Option Value) (base : Heap) (k : Nat) (c m : Str) (ps : List Str) (sem : Sem) : Prop where
  ex : ∃ (C f : Addr) (fd : FuncData), Cls K C ∧ Meth K C m f ∧ FnG P w K mg base CX0 k f fd ps (spX ⟨K, mg⟩ ps.length sem) ∧ mg c = some (.ref C) ∧ Binds K fd ps []
theorem fn_badG {P : Program} {w : World} {K : PySem.W.Frag} {mg : Str → Option Value} {base : Heap} {k : Nat} {f : Addr} {fd : FuncData} {ps : List Str} : FnG P w K mg base CX0 k f fd ps (spX ⟨K, mg⟩ ps.length fun _ => .bad) :=
  ⟨fun vs H Q E h => h.1, fun A outer s H args us vs Q E hr he hb hv hs => by obtain ⟨_, _, _, _, _, z⟩ := hs; exact z.elim⟩
theorem callF_X {κ : Kx} {W : WX'} {p : Bool} {sem : Sem} {as : List (Option Nat)} {ms : M (List O)} : ∀ σ H Q, tE κ W p (mCallF sem as ms) σ H Q → tE κ W p (mCallX sem as ms) σ H Q := fun σ H Q ⟨A, F, ρ, τ, υ, g, h⟩ => by
  refine ⟨A, F, ρ, τ, υ, g, ?_⟩
  unfold mCallF at h
  unfold mCallX
  unfold mBind at h ⊢
  cases e : ms ρ with
  | bad => rw [e] at h; exact h
  | exc x ρ' => rw [e] at h; exact h
  | ok rs ρ' =>
    rw [e] at h
    simp only at h ⊢
    cases ef : fill as rs ρ' with
    | none => rw [ef] at h; exact h
    | some os =>
      rw [ef] at h
      simp only at h ⊢
      cases es : sem os with
      | bad => rw [es] at h; exact h
      | exc x fs => rw [es] at h; exact h.elim
      | ok r fs => rw [es] at h; exact h
section
variable {X : Cx} {W : WX'} {x c m : Str} {p px apos pos : Pos} {e : Expr} {es : List Expr} {j k i : Nat} {ps : List Str} {sem : Sem} {as : List (Option Nat)} {ms : M (List O)}
theorem de_callG (C : CalG X.prog X.w X.K X.mg X.base j x ps sem) (hr : Rg k X.A) (hjk : j ≤ k) (hg : Gl X x) (ha : PA X (e :: es) (tAs (kx X) W as ms))
    (hn : as.length = ps.length := by rfl) (nd : (as.filterMap id).Nodup := by decide) (hdb : (x == ("__debug__" : Str)) = false := by decide) (he : starEach (e :: es) X.env = (false, eval e X.env) :: starEach es X.env := by rfl) (hpl : (backTo pos (starEach es X.env)).any (·.1) = false := by rfl) :
    PE X (.Call (.Name x p) (e :: es) [] pos) (tE (kx X) W false (mCallF sem as ms)) := by
  obtain ⟨f, fd, F, m, kp, b⟩ := C.ex
  exact pe_imp (de_callX (fun t h => pe_callG (F.mono hjk) (hr.mono (Nat.le_refl _)) hg m kp b (fun σ => passAt0) h hdb he hpl) ha hn nd) callF_X
theorem de_makeG (C : MakG X.prog X.w X.K X.mg X.base j c ps sem) (hr : Rg k X.A) (hjk : j + 1 ≤ k) (hg : Gl X c) (ha : PA X (e :: es) (tAs (kx X) W as ms))
    (hn : as.length + 1 = ps.length := by rfl) (nd : (as.filterMap id).Nodup := by decide) (hdb : (c == ("__debug__" : Str)) = false := by decide) (he : starEach (e :: es) X.env = (false, eval e X.env) :: starEach es X.env := by rfl) (hpl : (backTo pos (starEach es X.env)).any (·.1) = false := by rfl) :
    PE X (.Call (.Name c p) (e :: es) [] pos) (tE (kx X) W false (mMakeX c sem as ms)) := by
  obtain ⟨C, f, fd, M, F, m, b⟩ := C.ex
  rw [← hn] at F
  exact de_makeX (fun t h => pe_makeG M F (hr.mono hjk) hg m b (fun σ => passAt0) h hdb he hpl) m ha rfl nd
theorem de_methG {pl : PySem.Sem Bool} (C : MetG X.prog X.w X.K X.mg X.base j c m ps sem) (hr : Rg k X.A) (hjk : j ≤ k) (hi : PE X (.Name x px) (tVar i)) (ha : PA X (e :: es) (tAs (kx X) W as ms))
    (hn : as.length + 1 = ps.length := by rfl) (nd : ((some i :: as).filterMap id).Nodup := by decide) (hst : starEach (e :: es) X.env = (false, eval e X.env) :: starEach es X.env := by rfl) (hpl : (backTo pos (starEach es X.env)).any (·.1) = false := by rfl)
    (ht : eval (.Call (.Attribute (.Name x px) m apos) (e :: es) [] pos) X.env = (do
      let ov ← eval (.Name x px) X.env
      standAt apos.atName
      let (f, first) ← holding [ov] (getMethod ov m pl)
      callWith pos f first (backTo pos (starEach (e :: es) X.env)) (backToKw pos (keywordEach [] X.env))) := by rfl) :
    PE X (.Call (.Attribute (.Name x px) m apos) (e :: es) [] pos) (tE (kx X) W false (mMethX c m i sem as ms)) := by
  obtain ⟨C, f, fd, cl, M, F, mc, b⟩ := C.ex
  exact de_methX (fun ta t h1 h2 => pe_methG h1 cl M (F.mono hjk) hr b (fun σ => passAt0) h2 hst hpl ht) mc hi ha hn nd
theorem de_methG0 {pl : PySem.Sem Bool} (C : MetG X.prog X.w X.K X.mg X.base j c m ps sem) (hr : Rg k X.A) (hjk : j ≤ k) (hi : PE X (.Name x px) (tVar i)) (hn : 1 = ps.length := by rfl)
    (ht : eval (.Call (.Attribute (.Name x px) m apos) [] [] pos) X.env = (do
      let ov ← eval (.Name x px) X.env
      standAt apos.atName
      let (f, first) ← holding [ov] (getMethod ov m pl)
      callWith pos f first (backTo pos (starEach [] X.env)) (backToKw pos (keywordEach [] X.env))) := by rfl) :
    PE X (.Call (.Attribute (.Name x px) m apos) [] [] pos) (tE (kx X) W false (mMethX c m i sem [] (mPure []))) := by
  obtain ⟨C, f, fd, cl, M, F, hc, b⟩ := C.ex
  refine pe_imp (pe_methG0 (E := fun σ cls d H => W cls d σ H) hi cl M (F.mono hjk) hr b (fun σ => passAt0) ht) fun σ H Q ⟨A, F, ρ, τ, υ, g, h⟩ => ?_
  have key : ∀ a dx fs, σ[i]? = some (some (.ref a)) → H a = some (.ins C dx fs) → fs.lookup m = none → Wp (kx X) W A F H σ τ υ (mCallX sem (some i :: []) (mPure []) ρ) (fun r ρ' => ∀ v A' F' H', Stp false ρ A F H ρ' A' F' H' → G (kx X) A' F' H' ρ' σ (τ ++ [r]) (υ ++ [v]) → Q v H') →
      tMethS C m (spX ⟨X.K, X.mg⟩ ps.length sem) (fun σ cls d H => W cls d σ H) (tVar i) tNil σ H Q := fun a dx fs h1 h2 h3 h =>
    ⟨.ref a, h1, a, dx, fs, rfl, h2, h3, by
      have h' : Wp (kx X) W A F H σ τ υ ((match fill (some i :: []) [] ρ with
        | some os => match sem os with
          | .ok r fs => .ok r (putBack ρ (some i :: []) fs ρ)
          | .exc e fs => .exc e (putBack ρ (some i :: []) fs ρ)
          | .bad => .bad
        | none => .bad : Out O)) _ := h
      exact callee (as := some i :: []) (rs := []) (us := []) hn (by simp) .refl (by simpa using g) g.lent (.slot h1 .nil) (h'.imp fun r ρ' h v A' F' H' f' g' => h v A' F' H' (.no f') g')⟩
  unfold mMethX at h
  split at h
  · rename_i c' ns gs er
    split at h
    · rename_i hcm
      obtain ⟨rfl, hm⟩ := hcm
      obtain ⟨v, h1, h2⟩ := g.slot er
      obtain ⟨a, C', dx, fs, T, rfl, h4, h5, rfl, h6⟩ := h2.ob_v
      have h5 : X.mg c' = some (.ref C') := h5
      rw [hc] at h5
      cases h5
      exact key a dx fs h1 h4 (lookup_no hm) h
    · exact h.elim
  · rename_i c' ns ds er
    split at h
    · rename_i hcm
      obtain ⟨rfl, hm⟩ := hcm
      obtain ⟨v, h1, h2⟩ := g.slot er
      obtain ⟨a, C', dx, fs, rfl, h4, h5, rfl, h6⟩ := (h2.sh_v).ob_v
      have h5 : X.mg c' = some (.ref C') := h5
      rw [hc] at h5
      cases h5
      exact key a dx fs h1 (g.fh _ _ h4) (lookup_no hm) h
    · exact h.elim
  · exact h.elim
end
theorem fields_mk {κ : Kx} {rows : List (Str × Str)} (h : ∀ p ∈ rows, ∃ C, κ.mg p.1 = some (.ref C) ∧ Cls κ.K C ∧ NoAttr κ.K C p.2) : FieldsOk κ (fun c f => decide ((c, f) ∈ rows)) := fun c f e C hC => by
  obtain ⟨C', h1, h2, h3⟩ := h (c, f) (of_decide_eq_true e)
  rw [hC] at h1
  cases h1
  exact ⟨h2, h3⟩
/-- the law itself -/
theorem fn_lawG {P : Program} {w : World} {K : PySem.W.Frag} {mg : Str → Option Value} {base : Heap} {CX : CXT} {k : Nat} {f : Addr} {fd : FuncData} {ps : List Str} {sem : Sem} (F : FnG P w K mg base CX k f fd ps (spX ⟨K, mg⟩ 1 sem))
    (h : ∀ ns : List Int, ns.length ≤ 63 → ∃ fs, sem [.sh (.fz (ns.map D.int))] = .ok (.sh (.bl true)) fs) : FnG P w K mg base CX k f fd ps (spLaw K) := by
  refine F.imp fun vs H Q E ⟨a, ns, e, hs, hl, q⟩ => ?_
  subst e
  obtain ⟨fs, ef⟩ := h ns hl
  refine ⟨rfl, fun _ => [], H, [.sh (.fz (ns.map D.int))], ⟨rfl, rfl, fun x o eo => ?_, fun _ => List.nodup_nil, fun _ _ _ _ hx => by simp at hx, fun _ _ hx => by simp at hx, fun _ _ hx => by simp at hx, fun _ _ e => e⟩, ?_⟩
  · cases x with
    | t k => simp [atO] at eo
    | s i =>
      cases i with
      | zero =>
        simp [atO] at eo
        subst eo
        exact ⟨.ref a, by simp [atV], .fd (.sh (.fz hs (reps_ints ns)))⟩
      | succ i => simp [atO] at eo
  · rw [ef]
    intro v A' F' H' f' g'
    have g'' : G ⟨K, mg⟩ A' F' H' fs ([V.ref a].map some) ([] ++ [.sh (.bl true)]) ([] ++ [v]) := g'
    obtain ⟨_, w, _⟩ := g''.pop
    rw [w.sh_v.bl_v]
    exact q H'
end DL

end

section
set_option Elab.async false
set_option linter.all false
set_option maxRecDepth 100000
/-! EX, part W: what is wanted of a denotation's end, from the left. -/
namespace DL
open PySem L2 RZ PyProof.Rows

def wM {α : Type} (o : Out α) (Q : α → Env → Prop) (X : D → Env → Prop) : Prop := match o with
  | .ok a ρ => Q a ρ
  | .exc e ρ => X e ρ
  | .bad => False
def wO {α : Type} (o : Option α) (Q : α → Prop) : Prop := match o with
  | some a => Q a
  | none => False
/-- nothing may be raised -/
abbrev nX : D → Env → Prop := fun _ _ => False
structure Ks where
  n : Env → Prop
  r : O → Env → Prop
  b : Env → Prop
  c : Env → Prop
  x : D → Env → Prop
def wS (o : OutS) (K : Ks) : Prop := match o with
  | .bad => False
  | .next ρ => K.n ρ
  | .ret r ρ => K.r r ρ
  | .brk ρ => K.b ρ
  | .cont ρ => K.c ρ
  | .exc e ρ => K.x e ρ
section
variable {α β : Type} {ρ : Env} {Q : α → Env → Prop} {X : D → Env → Prop} {K : Ks}
theorem wO_some {a : α} {q : α → Prop} : wO (some a) q = q a := rfl
theorem wO_none {q : α → Prop} : wO none q = False := rfl
theorem wO_ite {c : Prop} [Decidable c] {a : α} {q : α → Prop} : wO (if c then some a else none) q = (c ∧ q a) := by
  by_cases h : c <;> simp [h, wO]
theorem wO_imp {o : Option α} {q q' : α → Prop} (h : wO o q) (i : ∀ a, q a → q' a) : wO o q' := by
  cases o with
  | none => exact h
  | some a => exact i a h
theorem wM_imp {o : Out α} {Q' : α → Env → Prop} (h : wM o Q X) (i : ∀ a ρ, Q a ρ → Q' a ρ) : wM o Q' X := by
  cases o with
  | bad => exact h
  | ok a ρ => exact i a ρ h
  | exc e ρ => exact h
theorem wM_impX {o : Out α} {Q' : α → Env → Prop} {X' : D → Env → Prop} (h : wM o Q X) (i : ∀ a ρ, Q a ρ → Q' a ρ) (j : ∀ e ρ, X e ρ → X' e ρ) : wM o Q' X' := by
  cases o with
  | bad => exact h
  | ok a ρ => exact i a ρ h
  | exc e ρ => exact j e ρ h
theorem wM_no {o : Out α} (h : wM o Q nX) : wM o Q X := wM_impX h (fun _ _ q => q) fun _ _ q => q.elim
theorem wM_ok {a : α} : wM (.ok a ρ) Q X = Q a ρ := rfl
theorem wM_bad : wM (.bad : Out α) Q X = False := rfl
theorem wM_get {o : Out α} (h : wM o Q nX) : ∃ a ρ, o = .ok a ρ ∧ Q a ρ := by
  cases o with
  | bad => exact h.elim
  | ok a ρ => exact ⟨a, ρ, rfl, h⟩
  | exc e ρ => exact h.elim
theorem wM_pure {a : α} : wM (mPure a ρ) Q X = Q a ρ := rfl
theorem wM_bind {m : M β} {k : β → M α} : wM (mBind m k ρ) Q X = wM (m ρ) (fun b ρ' => wM (k b ρ') Q X) X := by
  unfold mBind
  cases m ρ <;> rfl
theorem wM_map {m : M β} {f : β → α} : wM (mMap f m ρ) Q X = wM (m ρ) (fun b ρ' => Q (f b) ρ') X := by
  unfold mMap
  cases m ρ <;> rfl
theorem wM_iteB {c : Prop} [Decidable c] {m : M α} : wM ((if c then m else fun _ => .bad) ρ) Q X = (c ∧ wM (m ρ) Q X) := by
  by_cases h : c <;> simp [h, wM]
theorem wM_iteM {c : Prop} [Decidable c] {m n : M α} : wM ((if c then m else n) ρ) Q X = (if c then wM (m ρ) Q X else wM (n ρ) Q X) := by
  by_cases h : c <;> simp [h]
end
section
variable {ρ : Env} {X : D → Env → Prop} {K : Ks} {i : Nat}
theorem wM_nameB {Q : Option Nat × O → Env → Prop} : wM (mNameB i ρ) Q X = wO (ρ[i]?).join fun o => Q (some i, o) ρ := by
  unfold mNameB
  cases ρ[i]? with
  | none => rfl
  | some o => cases o <;> rfl
def shO : O → Option D
  | .fd (.sh d) => some d
  | _ => none
theorem wM_nameS {Q : D → Env → Prop} : wM (mNameS i ρ) Q X = wO (ρ[i]?).join fun o => wO (shO o) fun d => Q d ρ := by
  unfold mNameS
  cases ρ[i]? with
  | none => rfl
  | some o =>
    cases o with
    | none => rfl
    | some o =>
      cases o with
      | fd f => cases f <;> rfl
      | rc h fs => rfl
theorem wM_nameV {Q : D → Env → Prop} : wM (mNameV i ρ) Q X = wO (ρ[i]?).join fun o => Q o.toD (ρ.set i (some (.sh o.toD))) := by
  unfold mNameV
  cases ρ[i]? with
  | none => rfl
  | some o => cases o <;> rfl
theorem wM_nameM {Q : O → Env → Prop} : wM (mNameM i ρ) Q X = wO (ρ[i]?).join fun o => Q o (ρ.set i none) := by
  unfold mNameM
  cases ρ[i]? with
  | none => rfl
  | some o => cases o <;> rfl
theorem wM_asSh {z : Option Nat × O} {Q : D → Env → Prop} : wM (asSh z ρ) Q X = wO (shO z.2) fun d => Q d ρ := by
  obtain ⟨a, o⟩ := z
  cases o with
  | fd f => cases f <;> rfl
  | rc h fs => rfl
theorem wM_cons {m : M D} {ms : M (List D)} {Q : List D → Env → Prop} : wM (mCons m ms ρ) Q X = wM (m ρ) (fun d ρ1 => wM (ms ρ1) (fun ds ρ2 => Q (d :: ds) ρ2) X) X := by
  simp only [mCons, wM_bind, wM_pure]
theorem wM_consO {m : M O} {ms : M (List O)} {Q : List O → Env → Prop} : wM (mConsO m ms ρ) Q X = wM (m ρ) (fun d ρ1 => wM (ms ρ1) (fun ds ρ2 => Q (d :: ds) ρ2) X) X := by
  simp only [mConsO, wM_bind, wM_pure]
theorem wM_consB {pt : Bool} {m : M (Option Nat × O)} {ms : M (List (Option Nat × O))} {Q : List (Option Nat × O) → Env → Prop} : wM (mConsB pt m ms ρ) Q X = wM (m ρ) (fun d ρ1 => (pt || isSh d.2) = true ∧ wM (ms ρ1) (fun ds ρ2 => Q (d :: ds) ρ2) X) X := by
  simp only [mConsB, wM_bind, wM_iteB, wM_pure]
theorem wM_consT {m : M (Option Nat × O)} {ms : M (List (Option Nat × O))} {Q : List (Option Nat × O) → Env → Prop} : wM (mConsB true m ms ρ) Q X = wM (m ρ) (fun d ρ1 => wM (ms ρ1) (fun ds ρ2 => Q (d :: ds) ρ2) X) X := by
  simp only [wM_consB, Bool.true_or, true_and]
theorem wM_tup {ms : M (List D)} {Q : D → Env → Prop} : wM (mTup ms ρ) Q X = wM (ms ρ) (fun ds ρ1 => ds.length ≤ lim ∧ Q (.tup ds) ρ1) X := by
  simp only [mTup, wM_bind, wM_iteB, wM_pure]
theorem wM_lst {ms : M (List D)} {Q : O → Env → Prop} : wM (mLst ms ρ) Q X = wM (ms ρ) (fun ds ρ1 => ds.length ≤ lim ∧ Q (.lst ds) ρ1) X := by
  simp only [mLst, wM_bind, wM_iteB, wM_pure]
theorem wM_match {α β : Type} {o : Option β} {m : β → M α} {Q : α → Env → Prop} : wM ((match o with | some b => m b | none => fun _ => .bad : M α) ρ) Q X = wO o fun b => wM (m b ρ) Q X := by
  cases o <;> rfl
theorem wM_opS {f : D → D → Option O} {ma : M O} {mb : M (Option Nat × O)} {Q : O → Env → Prop} : wM (mOpS f ma mb ρ) Q X = wM (ma ρ) (fun x ρ1 => wM (mb ρ1) (fun y ρ2 => wO (f x.toD y.2.toD) fun o => Q o ρ2) X) X := by
  simp only [mOpS, wM_bind]
  congr
  funext x ρ1
  congr
  funext y ρ2
  cases f x.toD y.2.toD <;> rfl
theorem wM_opN {f : D → D → Option O} {mb : M (Option Nat × O)} {Q : O → Env → Prop} : wM (mOpN i f mb ρ) Q X = wO (ρ[i]?).join fun _ => wM (mb ρ) (fun y ρ2 => wO (ρ2[i]?).join fun o => wO (f o.toD y.2.toD) fun u => Q u ρ2) X := by
  unfold mOpN
  cases ρ[i]? with
  | none => rfl
  | some o =>
    cases o with
    | none => rfl
    | some o =>
      simp only [wM_bind, Option.join_some, wO_some]
      congr
      funext y ρ2
      cases ρ2[i]? with
      | none => rfl
      | some o =>
        cases o with
        | none => rfl
        | some o =>
          simp only [Option.join_some, wO_some]
          cases f o.toD y.2.toD <;> rfl
def blO : O → Option Bool
  | .fd (.sh (.bl b)) => some b
  | _ => none
theorem wM_bl {m : M O} {Q : Bool → Env → Prop} : wM (mBl m ρ) Q X = wM (m ρ) (fun o ρ1 => wO (blO o) fun b => Q b ρ1) X := by
  simp only [mBl, wM_bind]
  congr
  funext o ρ1
  cases o with
  | fd f => cases f with
    | sh d => cases d <;> rfl
    | ct c => rfl
  | rc h fs => rfl
theorem wM_andT {m n : M Bool} {Q : Bool → Env → Prop} : wM (mAndT m n ρ) Q X = wM (m ρ) (fun b ρ1 => if b = true then wM (n ρ1) Q X else Q false ρ1) X := by
  simp only [mAndT, wM_bind, wM_iteM, wM_pure]
theorem wM_orT {m n : M Bool} {Q : Bool → Env → Prop} : wM (mOrT m n ρ) Q X = wM (m ρ) (fun b ρ1 => if b = true then Q true ρ1 else wM (n ρ1) Q X) X := by
  simp only [mOrT, wM_bind, wM_iteM, wM_pure]
theorem wM_if {α : Type} {t : M Bool} {m n : M α} {Q : α → Env → Prop} : wM (mIf t m n ρ) Q X = wM (t ρ) (fun b ρ1 => if b = true then wM (m ρ1) Q X else wM (n ρ1) Q X) X := by
  simp only [mIf, wM_bind, wM_iteM]
def blD : D → Option Bool
  | .bl b => some b
  | _ => none
theorem wM_andV {m n : M D} {Q : D → Env → Prop} : wM (mAndV m n ρ) Q X = wM (m ρ) (fun d ρ1 => wO (blD d) fun b => if b = true then wM (n ρ1) Q X else Q (.bl false) ρ1) X := by
  simp only [mAndV, wM_bind]
  congr
  funext d ρ1
  cases d with
  | bl b => simp only [wM_iteM, wM_pure, blD, wO_some]
  | _ => rfl
theorem wM_orV {m n : M D} {Q : D → Env → Prop} : wM (mOrV m n ρ) Q X = wM (m ρ) (fun d ρ1 => wO (blD d) fun b => if b = true then Q (.bl true) ρ1 else wM (n ρ1) Q X) X := by
  simp only [mOrV, wM_bind]
  congr
  funext d ρ1
  cases d with
  | bl b => simp only [wM_iteM, wM_pure, blD, wO_some]
  | _ => rfl
theorem wM_tru {m : M (Option Nat × O)} {Q : Bool → Env → Prop} : wM (mTru m ρ) Q X = wM (m ρ) (fun x ρ1 => wO (truD x.2.toD) fun b => Q b ρ1) X := by
  simp only [mTru, wM_bind]
  congr
  funext x ρ1
  cases truD x.2.toD <;> rfl
def intO : D → Option Int
  | .int i => some i
  | _ => none
theorem wM_neg {m : M D} {Q : D → Env → Prop} : wM (mNeg m ρ) Q X = wM (m ρ) (fun d ρ1 => wO (intO d) fun j => Q (.int (-j)) ρ1) X := by
  simp only [mNeg, wM_bind]
  congr
  funext d ρ1
  cases d <;> rfl
theorem wM_part {m : M D} {Q : Option Int → Env → Prop} : wM (mPart m ρ) Q X = wM (m ρ) (fun d ρ1 => wO (intO d) fun j => Q (some j) ρ1) X := by
  simp only [mPart, wM_bind]
  congr
  funext d ρ1
  cases d <;> rfl
theorem wM_slice {pl ph : Bool} {ma : M (Option Nat × O)} {ml mh : M (Option Int)} {Q : O → Env → Prop} : wM (mSlice pl ph ma ml mh ρ) Q X = wM (ma ρ) (fun x ρ1 => ((pl && ph) || isSh x.2) = true ∧ wM (ml ρ1) (fun lo ρ2 => wM (mh ρ2) (fun hi ρ3 => wO (sliceD x.2.toD lo hi) fun o => Q o ρ3) X) X) X := by
  simp only [mSlice, wM_bind, wM_iteB]
  congr
  funext x ρ1
  congr
  funext lo ρ2
  congr
  funext hi ρ3
  cases sliceD x.2.toD lo hi <;> rfl
theorem wM_call {f : List D → Option O} {ms : M (List (Option Nat × O))} {Q : O → Env → Prop} : wM (mCall f ms ρ) Q X = wM (ms ρ) (fun rs ρ1 => wO (f (rs.map fun x => x.2.toD)) fun o => Q o ρ1) X := by
  simp only [mCall, wM_bind]
  congr
  funext rs ρ1
  cases f (rs.map fun x => x.2.toD) <;> rfl
theorem wM_isi {Ts : List String} {m : M (Option Nat × O)} {Q : D → Env → Prop} : wM (mIsi Ts m ρ) Q X = wM (m ρ) (fun x ρ1 => wO (isiD Ts x.2.toD) fun b => Q (.bl b) ρ1) X := by
  simp only [mIsi, wM_bind]
  congr
  funext x ρ1
  cases isiD Ts x.2.toD <;> rfl
theorem wM_op1 {f : D → Option O} {m : M (Option Nat × O)} {Q : O → Env → Prop} : wM (mOp1 f m ρ) Q X = wM (m ρ) (fun x ρ1 => wO (f x.2.toD) fun o => Q o ρ1) X := by
  simp only [mOp1, wM_bind]
  congr
  funext x ρ1
  cases f x.2.toD <;> rfl
theorem wM_bO {o : Option O} {Q : Bool → Env → Prop} : wM (bO o ρ) Q X = wO (o.bind blO) fun b => Q b ρ := by
  cases o with
  | none => rfl
  | some o =>
    cases o with
    | fd f => cases f with
      | sh d => cases d <;> rfl
      | ct c => rfl
    | rc h fs => rfl
theorem wM_chain {f f' : D → D → Option O} {ma mb mc : M D} {Q : Bool → Env → Prop} : wM (mChain f f' ma mb mc ρ) Q X = wM (ma ρ) (fun x ρ1 => wM (mb ρ1) (fun y ρ2 => wO ((f x y).bind blO) fun k => if k = true then wM (mc ρ2) (fun z ρ3 => wO ((f' y z).bind blO) fun b => Q b ρ3) X else Q false ρ2) X) X := by
  simp only [mChain, wM_bind, wM_bO, wM_iteM, wM_pure]
theorem wM_sub {pb : Bool} {ma : M (Option Nat × O)} {mb : M D} {Q : Option Nat × O → Env → Prop} : wM (mSub pb ma mb ρ) Q X = wM (ma ρ) (fun x ρ1 => (pb || isSh x.2) = true ∧ wM (mb ρ1) (fun k ρ2 => wO (itemOf x k) fun y => Q y ρ2) X) X := by
  simp only [mSub, wM_bind, wM_iteB]
  congr
  funext x ρ1
  congr
  funext k ρ2
  cases itemOf x k <;> rfl
theorem wM_subN {mb : M D} {Q : Option Nat × O → Env → Prop} : wM (mSubN i mb ρ) Q X = wO (ρ[i]?).join fun _ => wM (mb ρ) (fun k ρ2 => wO (ρ2[i]?).join fun o => wO (itemOf (some i, o) k) fun y => Q y ρ2) X := by
  unfold mSubN
  cases ρ[i]? with
  | none => rfl
  | some o =>
    cases o with
    | none => rfl
    | some o =>
      simp only [wM_bind, Option.join_some, wO_some]
      congr
      funext k ρ2
      cases ρ2[i]? with
      | none => rfl
      | some o =>
        cases o with
        | none => rfl
        | some o =>
          simp only [Option.join_some, wO_some]
          cases itemOf (some i, o) k <;> rfl
theorem wM_has {ms : M (List O)} {Q : List O → Env → Prop} : wM (mHas i ms ρ) Q X = wO (ρ[i]?).join fun _ => wM (ms ρ) Q X := by
  unfold mHas
  cases ρ[i]? with
  | none => rfl
  | some o => cases o <;> rfl
theorem wM_callF {sem : Sem} {as : List (Option Nat)} {ms : M (List O)} {Q : O → Env → Prop} : wM (mCallF sem as ms ρ) Q X = wM (ms ρ) (fun rs ρ1 => wO (fill as rs ρ1) fun os => wM (sem os) (fun r fs => Q r (putBack ρ1 as fs ρ1)) nX) X := by
  simp only [mCallF, wM_bind]
  congr
  funext rs ρ1
  cases fill as rs ρ1 with
  | none => rfl
  | some os =>
    simp only [wO_some]
    cases sem os <;> rfl
theorem wM_callX {sem : Sem} {as : List (Option Nat)} {ms : M (List O)} {Q : O → Env → Prop} : wM (mCallX sem as ms ρ) Q X = wM (ms ρ) (fun rs ρ1 => wO (fill as rs ρ1) fun os => wM (sem os) (fun r fs => Q r (putBack ρ1 as fs ρ1)) (fun e fs => X e (putBack ρ1 as fs ρ1))) X := by
  simp only [mCallX, wM_bind]
  congr
  funext rs ρ1
  cases fill as rs ρ1 with
  | none => rfl
  | some os =>
    simp only [wO_some]
    cases sem os <;> rfl
/-- what __init__ leaves -/
def madeQ (as : List (Option Nat)) (ρ : Env) (Q : O → Env → Prop) : O → Env → Prop
  | .fd (.sh .non), some o :: fs => Q o (putBack ρ as fs ρ)
  | _, _ => False
def madeX (as : List (Option Nat)) (ρ : Env) (X : D → Env → Prop) : D → Env → Prop
  | e, _ :: fs => X e (putBack ρ as fs ρ)
  | _, _ => False
theorem wM_make {c : Str} {sem : Sem} {as : List (Option Nat)} {ms : M (List O)} {Q : O → Env → Prop} : wM (mMakeX c sem as ms ρ) Q X = wM (ms ρ) (fun rs ρ1 => wO (fill as rs ρ1) fun os => wM (sem (.rc (.ob c []) [] :: os)) (madeQ as ρ1 Q) (madeX as ρ1 X)) X := by
  simp only [mMakeX, wM_bind]
  congr
  funext rs ρ1
  cases fill as rs ρ1 with
  | none => rfl
  | some os =>
    simp only [wO_some]
    cases sem (.rc (.ob c []) [] :: os) with
    | bad => rfl
    | exc e fs => cases fs <;> rfl
    | ok r fs =>
      cases r with
      | rc h gs => cases fs with
        | nil => rfl
        | cons f fs => cases f <;> rfl
      | fd f =>
        cases f with
        | ct c => cases fs with
          | nil => rfl
          | cons f fs => cases f <;> rfl
        | sh d =>
          cases fs with
          | nil => cases d <;> rfl
          | cons f fs => cases d <;> cases f <;> rfl
theorem wM_newK {Q : O → Env → Prop} : wM (mNewK ρ) Q X = Q (.fd (.ct (.dk [] []))) ρ := rfl
theorem wM_newT {Q : O → Env → Prop} : wM (mNewT ρ) Q X = Q (.fd (.ct (.dt [] []))) ρ := rfl
theorem wM_get1 {mk : M D} {Q : D → Env → Prop} : wM (mGet1 i mk ρ) Q X = wO (ρ[i]?).join fun o => isDk o = true ∧ wM (mk ρ) (fun k ρ1 => wO (ρ1[i]?).join fun o1 => wO (dgetO o1 k) fun r => Q (r.getD .non) ρ1) X := by
  unfold mGet1
  cases ρ[i]? with
  | none => rfl
  | some o =>
    cases o with
    | none => rfl
    | some o =>
      simp only [Option.join_some, wO_some]
      by_cases h : isDk o = true
      · rw [if_pos h, wM_bind]
        simp only [h, true_and]
        congr
        funext k ρ1
        cases ρ1[i]? with
        | none => rfl
        | some o =>
          cases o with
          | none => rfl
          | some o =>
            simp only [Option.join_some, wO_some]
            cases dgetO o k <;> rfl
      · rw [if_neg h]
        simp [h, wM]
theorem wM_get2 {mk md : M D} {Q : D → Env → Prop} : wM (mGet2 i mk md ρ) Q X = wO (ρ[i]?).join fun o => isDk o = true ∧ wM (mk ρ) (fun k ρ1 => wM (md ρ1) (fun d ρ2 => wO (ρ2[i]?).join fun o1 => wO (dgetO o1 k) fun r => Q (r.getD d) ρ2) X) X := by
  unfold mGet2
  cases ρ[i]? with
  | none => rfl
  | some o =>
    cases o with
    | none => rfl
    | some o =>
      simp only [Option.join_some, wO_some]
      by_cases h : isDk o = true
      · rw [if_pos h, wM_bind]
        simp only [h, true_and, wM_bind]
        congr
        funext k ρ1
        congr
        funext d ρ2
        cases ρ2[i]? with
        | none => rfl
        | some o =>
          cases o with
          | none => rfl
          | some o =>
            simp only [Option.join_some, wO_some]
            cases dgetO o k <;> rfl
      · rw [if_neg h]
        simp [h, wM]
/-- a field, as it is looked at -/
def fieldO (tbl : Str → Str → Bool) (f : Str) : Option Nat × O → Option (Option Nat × O)
  | (_, .fd (.sh (.ob c ns vs))) => if tbl c f = true then (lookD ns vs f).map fun d => (none, .sh d) else none
  | (z, .rc (.ob c ns) fs) => if tbl c f = true then match lookD ns fs f with
    | some (.sh d) => some (none, .sh d)
    | some (.ct k) => some (z, .fd (.ct k))
    | none => none
    else none
  | _ => none
theorem wM_field {tbl : Str → Str → Bool} {f : Str} {x : Option Nat × O} {Q : Option Nat × O → Env → Prop} : wM (fieldOf tbl f x ρ) Q X = wO (fieldO tbl f x) fun y => Q y ρ := by
  obtain ⟨z, o⟩ := x
  cases o with
  | fd g =>
    cases g with
    | ct c => rfl
    | sh d =>
      cases d with
      | ob c ns vs =>
        simp only [fieldOf, fieldO]
        split
        · cases lookD ns vs f <;> rfl
        · rfl
      | _ => rfl
  | rc h fs =>
    cases h with
    | dk ks => rfl
    | ob c ns =>
      simp only [fieldOf, fieldO]
      split
      · cases lookD ns fs f with
        | none => rfl
        | some q => cases q <;> rfl
      · rfl
theorem wM_fldV {tbl : Str → Str → Bool} {f : Str} {Q : D → Env → Prop} : wM (mFldV tbl i f ρ) Q X = match fldCt tbl ρ i f with
    | some k => Q k.toD (fldPut ρ i f (.sh k.toD))
    | none => wO (ρ[i]?).join fun o => wO (fieldO tbl f (some i, o)) fun y => wO (shO y.2) fun d => Q d ρ := by
  unfold mFldV
  cases fldCt tbl ρ i f with
  | some k => rfl
  | none => simp only [wM_bind, wM_nameB, wM_field, wM_asSh]
/-- rows that are walked -/
def seqO : D → Option (List D)
  | .lst xs => some xs
  | .fz xs => some xs
  | .tup xs => some xs
  | _ => none
theorem wM_seq {d : D} {Q : List D → Env → Prop} : wM (seqD d ρ) Q X = wO (seqO d) fun ds => Q ds ρ := by cases d <;> rfl
theorem wM_rng1 {n : Nat} {Q : List D → Env → Prop} (h : n ≤ 1000000) : wM (rng1 [.int (n : Int)] ρ) Q X = Q (rngD 0 n) ρ := by rw [rng1_ok h]; rfl
theorem wM_rng1' {j : Int} {Q : List D → Env → Prop} : wM (rng1 [.int j] ρ) Q X = ((-(2 ^ 62) ≤ j ∧ j < 2 ^ 62) ∧ Q (rngD 0 j.toNat) ρ) := by
  unfold rng1
  simp only [wM_iteB, wM_pure]
theorem wM_rng2' {j k : Int} {Q : List D → Env → Prop} : wM (rng2 [.int j, .int k] ρ) Q X = ((-(2 ^ 62) ≤ j ∧ j < 2 ^ 62 ∧ -(2 ^ 62) ≤ k ∧ k < 2 ^ 62) ∧ Q (rngD j (k - j).toNat) ρ) := by
  unfold rng2
  simp only [wM_iteB, wM_pure]
def enumO : List D → Option (List D)
  | [.lst xs] => some (enumD 0 xs)
  | [.tup xs] => some (enumD 0 xs)
  | _ => none
theorem wM_enumL {xs : List D} {Q : List D → Env → Prop} : wM (enumA [.lst xs] ρ) Q X = Q (enumD 0 xs) ρ := rfl
theorem wM_enumT {xs : List D} {Q : List D → Env → Prop} : wM (enumA [.tup xs] ρ) Q X = Q (enumD 0 xs) ρ := rfl
theorem wM_zipL {xs ys : List D} {Q : List D → Env → Prop} : wM (zipM [.lst xs, .lst ys] ρ) Q X = Q (zipD xs ys) ρ := rfl
theorem wM_zipT {xs ys : List D} {Q : List D → Env → Prop} : wM (zipM [.tup xs, .tup ys] ρ) Q X = Q (zipD xs ys) ρ := rfl

/-! ### statements -/
variable {m n : MS}
theorem wS_bind {α : Type} {m : M α} {k : α → MS} : wS (sBind m k ρ) K = wM (m ρ) (fun a ρ' => wS (k a ρ') K) K.x := by
  unfold sBind
  cases m ρ <;> rfl
theorem wS_seq : wS (sSeq m n ρ) K = wS (m ρ) ⟨fun ρ' => wS (n ρ') K, K.r, K.b, K.c, K.x⟩ := by
  unfold sSeq
  cases m ρ <;> rfl
theorem wS_next : wS (sNext ρ) K = K.n ρ := rfl
theorem wS_brk : wS (sBrk ρ) K = K.b ρ := rfl
theorem wS_cont : wS (sCont ρ) K = K.c ρ := rfl
theorem wS_bad : wS (sBad ρ) K = False := rfl
theorem wS_if {t : M Bool} : wS (sIf t m n ρ) K = wM (t ρ) (fun b ρ1 => if b = true then wS (m ρ1) K else wS (n ρ1) K) K.x := by
  unfold sIf
  rw [wS_bind]
  congr
  funext b ρ1
  cases b <;> rfl
theorem wS_ret {m : M O} : wS (sRet m ρ) K = wM (m ρ) K.r K.x := by unfold sRet; rw [wS_bind]; rfl
theorem wS_retN : wS (sRetN ρ) K = K.r (.sh .non) ρ := rfl
theorem wS_expr {m : M O} : wS (sExpr m ρ) K = wM (m ρ) (fun _ ρ1 => K.n ρ1) K.x := by unfold sExpr; rw [wS_bind]; rfl
theorem wS_asg {m : M O} : wS (sAsg i m ρ) K = wM (m ρ) (fun r ρ1 => K.n (ρ1.set i (some r))) K.x := by unfold sAsg; rw [wS_bind]; rfl
theorem wS_tg {b : Bn} {m : M D} : wS (sTg b m ρ) K = wM (m ρ) (fun d ρ1 => wO (b d ρ1) K.n) K.x := by
  unfold sTg
  rw [wS_bind]
  congr
  funext d ρ1
  cases b d ρ1 <;> rfl
def twoO {α : Type} : List α → Option (α × α)
  | [a, b] => some (a, b)
  | _ => none
theorem wS_par {j : Nat} {ms : M (List O)} : wS (sPar i j ms ρ) K = wM (ms ρ) (fun rs ρ1 => wO (twoO rs) fun p => K.n ((ρ1.set j (some p.2)).set i (some p.1))) K.x := by
  unfold sPar
  rw [wS_bind]
  congr
  funext rs ρ1
  match rs with
  | [] => rfl
  | [a] => rfl
  | [a, b] => rfl
  | a :: b :: c :: r => rfl
def ownL : O → Option (List D)
  | .fd (.ct (.lst ds)) => some ds
  | _ => none
theorem wS_app {m : M D} : wS (sApp i m ρ) K = wO (ρ[i]?).join fun o => wO (ownL o) fun _ => wM (m ρ) (fun d ρ1 => wO (ρ1[i]?).join fun o1 => wO (ownL o1) fun ds => ds.length < lim ∧ K.n (ρ1.set i (some (.lst (ds ++ [d]))))) K.x := by
  have key : ∀ (d : D) (ρ1 : Env), wS (match ρ1[i]? with
    | some (some (.fd (.ct (.lst ds)))) => if ds.length < lim then .next (ρ1.set i (some (.lst (ds ++ [d])))) else .bad
    | _ => .bad : OutS) K = wO (ρ1[i]?).join fun o1 => wO (ownL o1) fun ds => ds.length < lim ∧ K.n (ρ1.set i (some (.lst (ds ++ [d])))) := fun d ρ1 => by
    cases ρ1[i]? with
    | none => rfl
    | some o =>
      cases o with
      | none => rfl
      | some o =>
        cases o with
        | rc h fs => rfl
        | fd f =>
          cases f with
          | sh d => rfl
          | ct c =>
            cases c with
            | lst ds =>
              simp only [Option.join_some, wO_some, ownL]
              by_cases h : ds.length < lim <;> simp [h, wS]
            | dk ks vs => rfl
            | dt ks vs => rfl
  unfold sApp
  cases ρ[i]? with
  | none => rfl
  | some o =>
    cases o with
    | none => rfl
    | some o =>
      cases o with
      | rc h fs => rfl
      | fd f =>
        cases f with
        | sh d => rfl
        | ct c =>
          cases c with
          | lst ds =>
            simp only [Option.join_some, wO_some, ownL, wS_bind]
            congr
            funext d ρ1
            exact key d ρ1
          | dk ks vs => rfl
          | dt ks vs => rfl
theorem wS_put {mk mv : M D} : wS (sPut i mk mv ρ) K = wM (mv ρ) (fun d ρ1 => wO (ρ1[i]?).join fun _ => wM (mk ρ1) (fun k ρ2 => wO (ρ2[i]?).join fun o => wO (putO o k d) fun o' => K.n (ρ2.set i (some o'))) K.x) K.x := by
  unfold sPut
  rw [wS_bind]
  congr
  funext d ρ1
  cases ρ1[i]? with
  | none => rfl
  | some o =>
    cases o with
    | none => rfl
    | some o =>
      simp only [Option.join_some, wO_some, wS_bind]
      congr
      funext k ρ2
      cases ρ2[i]? with
      | none => rfl
      | some o =>
        cases o with
        | none => rfl
        | some o =>
          simp only [Option.join_some, wO_some]
          cases putO o k d <;> rfl
/-- a record with a field more -/
def fldSet (tbl : Str → Str → Bool) (f : Str) (r : O) : O → Option O
  | .rc (.ob c ns) gs => if tbl c f = true ∧ ns.length < 1000 then some (.rc (.ob c (putN f ns)) (putG f (toFd r) ns gs)) else none
  | _ => none
theorem wS_fldX {tbl : Str → Str → Bool} {f : Str} {m : M O} : wS (sFldX tbl i f m ρ) K = wM (m ρ) (fun r ρ1 => wO (ρ1[i]?).join fun o => wO (fldSet tbl f r o) fun o' => K.n (ρ1.set i (some o'))) K.x := by
  unfold sFldX
  rw [wS_bind]
  congr
  funext r ρ1
  cases ρ1[i]? with
  | none => rfl
  | some o =>
    cases o with
    | none => rfl
    | some o =>
      cases o with
      | fd f => rfl
      | rc h gs =>
        cases h with
        | dk ks => rfl
        | ob c ns =>
          simp only [Option.join_some, wO_some, fldSet, wO_ite]
          by_cases h : tbl c f = true ∧ ns.length < 1000
          · rw [if_pos h]; simp [h, wS]
          · rw [if_neg h]; simp [h, wS]
def lstC : Ct → Option (List D)
  | .lst ds => some ds
  | _ => none
theorem wS_appF {tbl : Str → Str → Bool} {f : Str} {m : M D} : wS (sAppF tbl i f m ρ) K = wO ((fldCt tbl ρ i f).bind lstC) fun _ => wM (m ρ) (fun d ρ1 => wO ((fldCt tbl ρ1 i f).bind lstC) fun ds => ds.length < lim ∧ K.n (fldPut ρ1 i f (.ct (.lst (ds ++ [d]))))) K.x := by
  unfold sAppF
  cases fldCt tbl ρ i f with
  | none => rfl
  | some c =>
    cases c with
    | dk ks vs => rfl
    | dt ks vs => rfl
    | lst ds0 =>
      simp only [Option.bind_some, lstC, wO_some, wS_bind]
      congr
      funext d ρ1
      cases fldCt tbl ρ1 i f with
      | none => rfl
      | some c =>
        cases c with
        | dk ks vs => rfl
        | dt ks vs => rfl
        | lst ds =>
          simp only [Option.bind_some, lstC, wO_some]
          by_cases h : ds.length < lim <;> simp [h, wS]
theorem wS_putF {tbl : Str → Str → Bool} {f : Str} {mk mv : M D} : wS (sPutF tbl i f mk mv ρ) K = wM (mv ρ) (fun d ρ1 => wO (fldCt tbl ρ1 i f) fun _ => wM (mk ρ1) (fun k ρ2 => wO (fldCt tbl ρ2 i f) fun c => wO ((putO (.fd (.ct c)) k d).bind ctO) fun c' => K.n (fldPut ρ2 i f (.ct c'))) K.x) K.x := by
  unfold sPutF
  rw [wS_bind]
  congr
  funext d ρ1
  cases fldCt tbl ρ1 i f with
  | none => rfl
  | some c =>
    simp only [wO_some, wS_bind]
    congr
    funext k ρ2
    cases fldCt tbl ρ2 i f with
    | none => rfl
    | some c =>
      simp only [wO_some]
      cases (putO (.fd (.ct c)) k d).bind ctO <;> rfl
end
end DL

end

section
set_option Elab.async false
set_option linter.all false
set_option maxRecDepth 100000
/-! EX, part X: loops, comprehensions, operations, by what is wanted. -/
namespace DL
open PySem L2 RZ PyProof.Rows

section
variable {ρ : Env} {X : D → Env → Prop} {K : Ks} {i : Nat}
/-- a def by its body -/
theorem sem_w {N n : Nat} {mu : List Nat} {m : MS} {os : List O} {Q : O → Env → Prop} (ρ0 : Env) (hl : os.length = n) (e : os.map some ++ List.replicate (N - n) none = ρ0)
    (h : wS (m ρ0) ⟨fun ρ => Q (.sh .non) (keepE mu n ρ), fun r ρ => Q r (keepE mu n ρ), fun _ => False, fun _ => False, nX⟩) : wM (semOf N n mu m os) Q X := by
  unfold semOf
  rw [if_pos hl, e]
  cases q : m ρ0 with
  | bad => rw [q] at h; exact h
  | next ρ => rw [q] at h; exact h
  | ret r ρ => rw [q] at h; exact h
  | brk ρ => rw [q] at h; exact h.elim
  | cont ρ => rw [q] at h; exact h.elim
  | exc x ρ => rw [q] at h; exact h.elim
theorem sem_wX {N n : Nat} {mu : List Nat} {m : MS} {os : List O} {Q : O → Env → Prop} (ρ0 : Env) (hl : os.length = n) (e : os.map some ++ List.replicate (N - n) none = ρ0)
    (h : wS (m ρ0) ⟨fun ρ => Q (.sh .non) (keepE mu n ρ), fun r ρ => Q r (keepE mu n ρ), fun _ => False, fun _ => False, fun x ρ => X x (keepE mu n ρ)⟩) : wM (semX N n mu m os) Q X := by
  unfold semX
  rw [if_pos hl, e]
  cases q : m ρ0 with
  | bad => rw [q] at h; exact h
  | next ρ => rw [q] at h; exact h
  | ret r ρ => rw [q] at h; exact h
  | brk ρ => rw [q] at h; exact h.elim
  | cont ρ => rw [q] at h; exact h.elim
  | exc x ρ => rw [q] at h; exact h
/-- a contract as an equation -/
theorem wM_eq {α : Type} {o : Out α} {a : α} {ρ' : Env} (h : wM o (fun b ρ => b = a ∧ ρ = ρ') nX) : o = .ok a ρ' := by
  obtain ⟨b, ρ, e, rfl, rfl⟩ := wM_get h
  exact e
theorem wM_of {α : Type} {o : Out α} {a : α} {ρ' : Env} {Q : α → Env → Prop} (h : o = .ok a ρ') (q : Q a ρ') : wM o Q X := by rw [h]; exact q

/-! ### loops -/
theorem forGo_w {b : Bn} {body : MS} (I : Nat → Env → Prop) : ∀ (ds : List D) (k : Nat) (ρ : Env), I k ρ →
    (∀ j d ρ, ds[j]? = some d → I (k + j) ρ → wO (b d ρ) fun ρ1 => wS (body ρ1) ⟨I (k + j + 1), K.r, K.n, I (k + j + 1), K.x⟩) → (∀ ρ, I (k + ds.length) ρ → K.n ρ) → wS (forGo b body ds ρ) K
  | [], k, ρ, h, _, fin => fin ρ (by simpa using h)
  | d :: ds, k, ρ, h, step, fin => by
    have hs := step 0 d ρ (by simp) (by simpa using h)
    rw [forGo_cons]
    cases eb : b d ρ with
    | none => rw [eb] at hs; exact hs
    | some ρ1 =>
      rw [eb] at hs
      simp only [wO_some] at hs
      simp only
      have rest : ∀ ρ2, I (k + 1) ρ2 → wS (forGo b body ds ρ2) K := fun ρ2 h2 => forGo_w I ds (k + 1) ρ2 h2 (fun j d ρ hd hi => by
        have := step (j + 1) d ρ (by simpa using hd) (by rw [show k + (j + 1) = k + 1 + j by omega]; exact hi)
        rw [show k + (j + 1) + 1 = k + 1 + j + 1 by omega] at this
        exact this) fun ρ h => fin ρ (by rw [show k + (d :: ds).length = k + 1 + ds.length by simp; omega]; exact h)
      cases em : body ρ1 with
      | bad => rw [em] at hs; exact hs
      | next ρ2 => rw [em] at hs; exact rest ρ2 (by simpa [wS] using hs)
      | cont ρ2 => rw [em] at hs; exact rest ρ2 (by simpa [wS] using hs)
      | brk ρ2 => rw [em] at hs; exact hs
      | ret r ρ2 => rw [em] at hs; exact hs
      | exc x ρ2 => rw [em] at hs; exact hs
theorem wS_for {src : M (List D)} {b : Bn} {body : MS} (I : Nat → Env → Prop)
    (h : wM (src ρ) (fun ds ρ' => I 0 ρ' ∧ (∀ j d ρ, ds[j]? = some d → I j ρ → wO (b d ρ) fun ρ1 => wS (body ρ1) ⟨I (j + 1), K.r, K.n, I (j + 1), K.x⟩) ∧ ∀ ρ, I ds.length ρ → K.n ρ) K.x) : wS (sFor src b body ρ) K := by
  unfold sFor
  rw [wS_bind]
  exact wM_imp h fun ds ρ' ⟨h1, h2, h3⟩ => forGo_w I ds 0 ρ' h1 (fun j d ρ hd hi => by
    have := h2 j d ρ hd (by simpa using hi)
    simpa using this) fun ρ hi => h3 ρ (by simpa using hi)
/-- over a row of things that lie as data -/
theorem wS_forL {α : Type} {src : M (List D)} {b : Bn} {body : MS} (f : α → D) (xs : List α) (I : List α → Env → Prop)
    (h : wM (src ρ) (fun ds ρ' => ds = xs.map f ∧ I [] ρ') K.x) (step : ∀ pre x post ρ, xs = pre ++ x :: post → I pre ρ → wO (b (f x) ρ) fun ρ1 => wS (body ρ1) ⟨I (pre ++ [x]), K.r, K.n, I (pre ++ [x]), K.x⟩)
    (fin : ∀ ρ, I xs ρ → K.n ρ) : wS (sFor src b body ρ) K := by
  refine wS_for (fun k ρ => I (xs.take k) ρ) (wM_imp h fun ds ρ' ⟨e, h1⟩ => ?_)
  subst e
  refine ⟨by simpa using h1, fun j d ρ hd hi => ?_, fun ρ hi => fin ρ (by rw [List.length_map, List.take_length] at hi; exact hi)⟩
  rw [List.getElem?_map] at hd
  cases ex : xs[j]? with
  | none => rw [ex] at hd; cases hd
  | some x =>
    rw [ex] at hd; cases hd
    obtain ⟨hj, hx⟩ := List.getElem?_eq_some_iff.mp ex
    have e1 : xs = xs.take j ++ x :: xs.drop (j + 1) := by
      rw [← hx, List.getElem_cons_drop hj, List.take_append_drop]
    have e2 : xs.take (j + 1) = xs.take j ++ [x] := by rw [List.take_add_one, ex]; rfl
    have := step (xs.take j) x (xs.drop (j + 1)) ρ e1 hi
    rw [e2]
    exact this
/-- over a range -/
theorem wS_forR {src : M (List D)} {b : Bn} {body : MS} (lo : Int) (n : Nat) (I : Nat → Env → Prop)
    (h : wM (src ρ) (fun ds ρ' => ds = rngD lo n ∧ I 0 ρ') K.x) (step : ∀ k ρ, k < n → I k ρ → wO (b (.int (lo + (k : Int))) ρ) fun ρ1 => wS (body ρ1) ⟨I (k + 1), K.r, K.n, I (k + 1), K.x⟩)
    (fin : ∀ ρ, I n ρ → K.n ρ) : wS (sFor src b body ρ) K := by
  refine wS_for I (wM_imp h fun ds ρ' ⟨e, h1⟩ => ?_)
  subst e
  refine ⟨h1, fun j d ρ hd hi => ?_, fun ρ hi => fin ρ (by rw [rngD_len] at hi; exact hi)⟩
  have hj : j < n := by
    have := (List.getElem?_eq_some_iff.mp hd).1
    rw [rngD_len] at this; exact this
  rw [rngD_get hd]
  exact step j ρ hj hi
theorem enumD_map {α : Type} (f : α → D) : ∀ (k : Nat) (xs : List α) (j : Nat) (d : D), (enumD k (xs.map f))[j]? = some d → ∃ x, xs[j]? = some x ∧ d = .tup [.int ((k + j : Nat) : Int), f x] := fun k xs j d h => by
  obtain ⟨u, h1, rfl⟩ := enumD_get h
  rw [List.getElem?_map] at h1
  cases ex : xs[j]? with
  | none => rw [ex] at h1; cases h1
  | some x => rw [ex] at h1; cases h1; exact ⟨x, rfl, rfl⟩
/-- over an enumerated row -/
theorem wS_forE {α : Type} {src : M (List D)} {b : Bn} {body : MS} (f : α → D) (xs : List α) (I : List α → Env → Prop)
    (h : wM (src ρ) (fun ds ρ' => ds = enumD 0 (xs.map f) ∧ I [] ρ') K.x) (step : ∀ pre x post ρ, xs = pre ++ x :: post → I pre ρ → wO (b (.tup [.int (pre.length : Int), f x]) ρ) fun ρ1 => wS (body ρ1) ⟨I (pre ++ [x]), K.r, K.n, I (pre ++ [x]), K.x⟩)
    (fin : ∀ ρ, I xs ρ → K.n ρ) : wS (sFor src b body ρ) K := by
  refine wS_for (fun k ρ => I (xs.take k) ρ) (wM_imp h fun ds ρ' ⟨e, h1⟩ => ?_)
  subst e
  refine ⟨by simpa using h1, fun j d ρ hd hi => ?_, fun ρ hi => fin ρ (by rw [enumD_len, List.length_map, List.take_length] at hi; exact hi)⟩
  obtain ⟨x, ex, rfl⟩ := enumD_map f 0 xs j d hd
  obtain ⟨hj, hx⟩ := List.getElem?_eq_some_iff.mp ex
  have e1 : xs = xs.take j ++ x :: xs.drop (j + 1) := by
    rw [← hx, List.getElem_cons_drop hj, List.take_append_drop]
  have e2 : xs.take (j + 1) = xs.take j ++ [x] := by rw [List.take_add_one, ex]; rfl
  have := step (xs.take j) x (xs.drop (j + 1)) ρ e1 hi
  rw [e2]
  have e3 : (xs.take j).length = j := by rw [List.length_take]; omega
  rw [e3] at this
  rw [Nat.zero_add]
  exact this

/-! ### comprehensions -/
theorem lcGo_w {α : Type} {vs : List Nat} {b : Bn} {t : M Bool} {e : M D} (f : α → D) (I : List α → List D → Env → Prop) (P : List D → Env → Prop) : ∀ (post pre : List α) (acc : List D) (ρ : Env), I pre acc ρ →
    (∀ pre' x post' acc ρ, pre ++ post = pre' ++ x :: post' → I pre' acc ρ → wO (b (f x) ρ) fun ρ1 => wM (t ρ1) (fun c ρ2 => if c = true then acc.length < lim ∧ wM (e ρ2) (fun y ρ3 => I (pre' ++ [x]) (acc ++ [y]) (wipeE ρ3 vs)) nX else I (pre' ++ [x]) acc (wipeE ρ2 vs)) nX) →
    (∀ acc ρ, I (pre ++ post) acc ρ → P acc ρ) → ∃ out ρ', lcGo vs b t e (post.map f) acc ρ = .ok out ρ' ∧ P out ρ'
  | [], pre, acc, ρ, h, _, fin => ⟨acc, ρ, rfl, fin acc ρ (by simpa using h)⟩
  | x :: post, pre, acc, ρ, h, step, fin => by
    have hs := step pre x post acc ρ rfl h
    have rest : ∀ acc' ρ', I (pre ++ [x]) acc' ρ' → ∃ out ρ'', lcGo vs b t e (post.map f) acc' ρ' = .ok out ρ'' ∧ P out ρ'' := fun acc' ρ' h' =>
      lcGo_w f I P post (pre ++ [x]) acc' ρ' h' (fun pre' y post' acc ρ e hi => step pre' y post' acc ρ (by rw [← e]; simp) hi) fun acc ρ h => fin acc ρ (by simpa using h)
    simp only [List.map_cons]
    unfold lcGo
    cases eb : b (f x) ρ with
    | none => rw [eb] at hs; exact hs.elim
    | some ρ1 =>
      rw [eb] at hs
      simp only [wO_some] at hs
      simp only
      obtain ⟨c, ρ2, et, hs⟩ := wM_get hs
      rw [et]
      cases c with
      | false =>
        simp only
        exact rest _ _ (by simpa using hs)
      | true =>
        simp only [if_true] at hs
        obtain ⟨hl, hs⟩ := hs
        obtain ⟨y, ρ3, ee, hs⟩ := wM_get hs
        simp only
        rw [ee]
        simp only
        rw [if_pos hl]
        exact rest _ _ hs
theorem wM_lcL {α : Type} {vs : List Nat} {src : M (List D)} {b : Bn} {t : M Bool} {e : M D} {Q : O → Env → Prop} (f : α → D) (xs : List α) (I : List α → List D → Env → Prop)
    (h : wM (src ρ) (fun ds ρ' => ds = xs.map f ∧ I [] [] (wipeE ρ' vs) ∧ ∀ acc ρ2, I xs acc ρ2 → Q (.lst acc) (backE ρ' ρ2 vs)) X)
    (step : ∀ pre x post acc ρ, xs = pre ++ x :: post → I pre acc ρ → wO (b (f x) ρ) fun ρ1 => wM (t ρ1) (fun c ρ2 => if c = true then acc.length < lim ∧ wM (e ρ2) (fun y ρ3 => I (pre ++ [x]) (acc ++ [y]) (wipeE ρ3 vs)) nX else I (pre ++ [x]) acc (wipeE ρ2 vs)) nX) :
    wM (mLc vs src b t e ρ) Q X := by
  unfold mLc
  rw [wM_bind]
  refine wM_imp h fun ds ρ' ⟨e1, h1, h2⟩ => ?_
  subst e1
  obtain ⟨out, ρ2, e2, q⟩ := lcGo_w (vs := vs) (b := b) (t := t) (e := e) f I (fun acc ρ2 => Q (.lst acc) (backE ρ' ρ2 vs)) xs [] [] (wipeE ρ' vs) h1 (fun pre' x post' acc ρ e hi => step pre' x post' acc ρ (by simpa using e) hi) fun acc ρ hi => h2 acc ρ (by simpa using hi)
  rw [e2]
  exact q
/-- the turns leave all as it is: a map -/
theorem wM_lcM {α : Type} {vs : List Nat} {src : M (List D)} {b : Bn} {e : M D} {Q : O → Env → Prop} (f : α → D) (xs : List α) (g : α → D)
    (h : wM (src ρ) (fun ds ρ' => ds = xs.map f ∧ xs.length ≤ lim ∧ (∀ x ∈ xs, wO (b (f x) (wipeE ρ' vs)) fun ρ1 => wM (e ρ1) (fun y ρ3 => y = g x ∧ wipeE ρ3 vs = wipeE ρ' vs) nX) ∧ Q (.lst (xs.map g)) (backE ρ' (wipeE ρ' vs) vs)) X) :
    wM (mLc vs src b (mPure true) e ρ) Q X := by
  unfold mLc
  rw [wM_bind]
  refine wM_imp h fun ds ρ' ⟨e1, hl, hs, q⟩ => ?_
  subst e1
  obtain ⟨out, ρ2, e2, e3, rfl⟩ := lcGo_w (vs := vs) (b := b) (t := mPure true) (e := e) f (fun pre acc ρ => acc = pre.map g ∧ ρ = wipeE ρ' vs) (fun acc ρ2 => acc = xs.map g ∧ ρ2 = wipeE ρ' vs) xs [] [] (wipeE ρ' vs) ⟨rfl, rfl⟩ (fun pre x post acc ρ ex ⟨ea, er⟩ => by
    subst ea er
    have ex : xs = pre ++ x :: post := by simpa using ex
    refine wO_imp (hs x (by rw [ex]; simp)) fun ρ1 h1 => ?_
    rw [wM_pure, if_pos rfl]
    refine ⟨by rw [ex] at hl; simp at hl ⊢; omega, wM_imp h1 fun y ρ3 ⟨h2, h3⟩ => ⟨by rw [h2]; simp, h3⟩⟩) fun acc ρ h => by simpa using h
  subst e3
  rw [e2]
  exact q
/-- the turns leave all as it is: a filter and a map -/
theorem wM_lcF {α : Type} {vs : List Nat} {src : M (List D)} {b : Bn} {t : M Bool} {e : M D} {Q : O → Env → Prop} (f : α → D) (xs : List α) (p : α → Bool) (g : α → D)
    (h : wM (src ρ) (fun ds ρ' => ds = xs.map f ∧ xs.length ≤ lim ∧ (∀ x ∈ xs, wO (b (f x) (wipeE ρ' vs)) fun ρ1 => wM (t ρ1) (fun c ρ2 => c = p x ∧ (p x = true → wM (e ρ2) (fun y ρ3 => y = g x ∧ wipeE ρ3 vs = wipeE ρ' vs) nX) ∧ (p x = false → wipeE ρ2 vs = wipeE ρ' vs)) nX) ∧ Q (.lst ((xs.filter p).map g)) (backE ρ' (wipeE ρ' vs) vs)) X) :
    wM (mLc vs src b t e ρ) Q X := by
  unfold mLc
  rw [wM_bind]
  refine wM_imp h fun ds ρ' ⟨e1, hl, hs, q⟩ => ?_
  subst e1
  obtain ⟨out, ρ2, e2, e3, rfl⟩ := lcGo_w (vs := vs) (b := b) (t := t) (e := e) f (fun pre acc ρ => acc = (pre.filter p).map g ∧ ρ = wipeE ρ' vs) (fun acc ρ2 => acc = (xs.filter p).map g ∧ ρ2 = wipeE ρ' vs) xs [] [] (wipeE ρ' vs) ⟨rfl, rfl⟩ (fun pre x post acc ρ ex ⟨ea, er⟩ => by
    subst ea er
    have ex : xs = pre ++ x :: post := by simpa using ex
    refine wO_imp (hs x (by rw [ex]; simp)) fun ρ1 h1 => wM_imp h1 fun c ρ2 ⟨h2, h3, h4⟩ => ?_
    subst h2
    cases hp : p x with
    | true =>
      rw [if_pos rfl]
      refine ⟨?_, wM_imp (h3 hp) fun y ρ3 ⟨h5, h6⟩ => ⟨by rw [h5]; simp [List.filter_append, List.filter_cons, hp], h6⟩⟩
      have := List.length_filter_le p pre
      rw [ex] at hl; simp at hl ⊢; omega
    | false =>
      rw [if_neg (by simp)]
      exact ⟨by simp [List.filter_append, List.filter_cons, hp], h4 hp⟩) fun acc ρ h => by simpa using h
  subst e3
  rw [e2]
  exact q

/-! ### targets, arguments -/
theorem wO_bName0 {d : D} {x : Option O} {q : Env → Prop} : wO (bName 0 d (x :: ρ)) q = q (some (.sh d) :: ρ) := by
  simp [bName, wO]
theorem wO_bNameS {d : D} {x : Option O} {q : Env → Prop} : wO (bName (i + 1) d (x :: ρ)) q = wO (bName i d ρ) fun ρ' => q (x :: ρ') := by
  unfold bName
  simp only [List.length_cons, Nat.add_lt_add_iff_right, List.set_cons_succ, wO_ite]
theorem wO_bTup {bs : List Bn} {ds : List D} {q : Env → Prop} : wO (bTup bs (.tup ds) ρ) q = wO (bSeq bs ds ρ) q := rfl
theorem wO_bNil {q : Env → Prop} : wO (bSeq [] [] ρ) q = q ρ := rfl
theorem wO_bCons {b : Bn} {bs : List Bn} {d : D} {ds : List D} {q : Env → Prop} : wO (bSeq (b :: bs) (d :: ds) ρ) q = wO (b d ρ) fun ρ' => wO (bSeq bs ds ρ') q := by
  simp only [bSeq]
  cases b d ρ <;> rfl
theorem wO_fillN {q : List O → Prop} : wO (fill [] [] ρ) q = q [] := rfl
theorem wO_fillS {as : List (Option Nat)} {rs : List O} {q : List O → Prop} : wO (fill (some i :: as) rs ρ) q = wO (ρ[i]?).join fun o => wO (fill as rs ρ) fun os => q (o :: os) := by
  have e : fill (some i :: as) rs ρ = match ρ[i]? with
    | some (some o) => match fill as rs ρ with
      | some os => some (o :: os)
      | none => none
    | _ => none := by rw [fill] <;> rfl
  rw [e]
  generalize fill as rs ρ = f
  cases ρ[i]? with
  | none => rfl
  | some o =>
    cases o with
    | none => rfl
    | some o => cases f <;> rfl
theorem wO_fillP {as : List (Option Nat)} {r : O} {rs : List O} {q : List O → Prop} : wO (fill (none :: as) (r :: rs) ρ) q = wO (fill as rs ρ) fun os => q (r :: os) := by
  have e : fill (none :: as) (r :: rs) ρ = match fill as rs ρ with
    | some os => some (r :: os)
    | none => none := by rw [fill] <;> rfl
  rw [e]
  generalize fill as rs ρ = f
  cases f <;> rfl
theorem putBack_none {ρ0 fs : Env} {as : List (Option Nat)} {f : Option O} : putBack ρ0 (none :: as) (f :: fs) ρ = putBack ρ0 as fs ρ := rfl
theorem putBack_nil {ρ0 fs : Env} : putBack ρ0 [] fs ρ = ρ := rfl
theorem slotSh_rc {h : Hd} {fs : List Fd} : slotSh (some (.rc h fs) :: ρ) 0 = false := rfl
theorem slotSh_of {o : O} (h : isSh o = false) : slotSh (some o :: ρ) 0 = false := by
  cases o with
  | rc h fs => rfl
  | fd f => cases f with
    | sh d => cases h
    | ct c => rfl
theorem wipe_nil : wipeE ρ [] = ρ := rfl
theorem wipe_cons {v : Nat} {vs : List Nat} : wipeE ρ (v :: vs) = (wipeE ρ vs).set v none := rfl
def restO (ρ : Env) (v : Nat) : Option O := match ρ[v]? with
  | some (some (.fd (.sh d))) => some (.fd (.sh d))
  | _ => none
theorem back_nil {ρ' : Env} : backE ρ' ρ [] = ρ := rfl
theorem back_cons {ρ' : Env} {v : Nat} {vs : List Nat} : backE ρ' ρ (v :: vs) = (backE ρ' ρ vs).set v (restO ρ' v) := rfl
theorem rest_s {x : Option O} : restO (x :: ρ) (i + 1) = restO ρ i := rfl
theorem rest_n : restO (none :: ρ) 0 = none := rfl
theorem rest_sh {d : D} : restO (some (.fd (.sh d)) :: ρ) 0 = some (.sh d) := rfl
theorem rest_ct {c : Ct} : restO (some (.fd (.ct c)) :: ρ) 0 = none := rfl
theorem rest_rc {h : Hd} {fs : List Fd} : restO (some (.rc h fs) :: ρ) 0 = none := rfl

/-! ### operations -/
theorem add_ii {i j : Int} : addD (.int i) (.int j) = some (.sh (.int (i + j))) := rfl
theorem add_ll {xs ys : List D} : addD (.lst xs) (.lst ys) = if xs.length + ys.length ≤ lim then some (.lst (xs ++ ys)) else none := rfl
theorem add_tt {xs ys : List D} : addD (.tup xs) (.tup ys) = if xs.length + ys.length ≤ lim then some (.sh (.tup (xs ++ ys))) else none := rfl
theorem sub_ii {i j : Int} : liftI subI (.int i) (.int j) = some (.sh (.int (i - j))) := rfl
theorem mul_ii {i j : Int} : liftI mulI (.int i) (.int j) = if i.natAbs < P512 ∧ j.natAbs < P512 then some (.sh (.int (i * j))) else none := by
  by_cases h : i.natAbs < P512 ∧ j.natAbs < P512
  · rw [if_pos h]; unfold liftI mulI; simp only [if_pos h]
  · rw [if_neg h]; unfold liftI mulI; simp only [if_neg h]
theorem div_ii {i j : Int} : liftI divI (.int i) (.int j) = if 0 < j ∧ j.natAbs < P512 then some (.sh (.int (i / j))) else none := by
  by_cases h : 0 < j ∧ j.natAbs < P512
  · rw [if_pos h]; unfold liftI divI; simp only [if_pos h]
  · rw [if_neg h]; unfold liftI divI; simp only [if_neg h]
theorem mod_ii {i j : Int} : liftI modI (.int i) (.int j) = if 0 < j then some (.sh (.int (i % j))) else none := by
  by_cases h : 0 < j
  · rw [if_pos h]; unfold liftI modI; simp only [if_pos h]
  · rw [if_neg h]; unfold liftI modI; simp only [if_neg h]
theorem cmp_ii {f : Int → Int → Bool} {i j : Int} : liftB f (.int i) (.int j) = some (.sh (.bl (f i j))) := rfl
theorem eq_ii {i j : Int} : eqO (.int i) (.int j) = some (.sh (.bl (i == j))) := rfl
theorem ne_ii {i j : Int} : neO (.int i) (.int j) = some (.sh (.bl (!(i == j)))) := rfl
theorem is_nn : isO .non .non = some (.sh (.bl true)) := rfl
theorem is_tn {xs : List D} : isO (.tup xs) .non = some (.sh (.bl false)) := rfl
theorem is_ln {xs : List D} : isO (.lst xs) .non = some (.sh (.bl false)) := rfl
theorem is_in {j : Int} : isO (.int j) .non = some (.sh (.bl false)) := rfl
theorem is_bn {b : Bool} : isO (.bl b) .non = some (.sh (.bl false)) := rfl
theorem is_bb {a b : Bool} : isO (.bl a) (.bl b) = some (.sh (.bl (decide (a = b)))) := rfl
theorem isn_nn : isnO .non .non = some (.sh (.bl false)) := rfl
theorem isn_tn {xs : List D} : isnO (.tup xs) .non = some (.sh (.bl true)) := rfl
theorem isn_ln {xs : List D} : isnO (.lst xs) .non = some (.sh (.bl true)) := rfl
theorem isn_in {j : Int} : isnO (.int j) .non = some (.sh (.bl true)) := rfl
theorem len_l {xs : List D} : lenD (.lst xs) = some (.sh (.int xs.length)) := rfl
theorem len_t {xs : List D} : lenD (.tup xs) = some (.sh (.int xs.length)) := rfl
theorem int_i {j : Int} : DL.intD (.int j) = some (.sh (.int j)) := rfl
theorem int_b {b : Bool} : DL.intD (.bl b) = some (.sh (.int (if b = true then 1 else 0))) := rfl
theorem abs_i {j : Int} : absD (.int j) = some (.sh (.int (if j < 0 then -j else j))) := rfl
theorem tup_l {xs : List D} : tupleD (.lst xs) = some (.sh (.tup xs)) := rfl
theorem tup_t {xs : List D} : tupleD (.tup xs) = some (.sh (.tup xs)) := rfl
theorem list_l {xs : List D} : listD (.lst xs) = some (.lst xs) := rfl
theorem list_t {xs : List D} : listD (.tup xs) = some (.lst xs) := rfl
theorem bls_map : ∀ (bs : List Bool), blsD (bs.map D.bl) = some bs
  | [] => rfl
  | b :: bs => by simp only [List.map_cons, blsD, bls_map bs]
theorem all_bls {α : Type} {xs : List α} {p : α → Bool} : allD (.lst (xs.map fun x => D.bl (p x))) = some (.sh (.bl (xs.all p))) := by
  have : xs.map (fun x => D.bl (p x)) = (xs.map p).map D.bl := by rw [List.map_map]; rfl
  unfold allD
  rw [this]
  simp only [bls_map, List.all_map]
  rfl
theorem any_bls {α : Type} {xs : List α} {p : α → Bool} : anyD (.lst (xs.map fun x => D.bl (p x))) = some (.sh (.bl (xs.any p))) := by
  have : xs.map (fun x => D.bl (p x)) = (xs.map p).map D.bl := by rw [List.map_map]; rfl
  unfold anyD
  rw [this]
  simp only [bls_map, List.any_map]
  rfl
theorem f1_ap {f : D → Option O} {d : D} : f1 f [d] = f d := rfl
theorem f2_ap {f : D → D → Option O} {d e : D} : f2 f [d, e] = f d e := rfl
theorem tru_b {b : Bool} : truD (.bl b) = some b := rfl
theorem tru_t {xs : List D} : truD (.tup xs) = some (!xs.isEmpty) := rfl
theorem tru_l {xs : List D} : truD (.lst xs) = some (!xs.isEmpty) := rfl
theorem tru_n : truD .non = some false := rfl
theorem item_lstS {z : Option Nat} {xs : List D} {j : Int} : itemOf (z, .fd (.sh (.lst xs))) (.int j) = (atI xs j).map fun d => (none, .sh d) := by
  simp only [itemOf]; cases atI xs j <;> rfl
theorem item_lstO {z : Option Nat} {xs : List D} {j : Int} : itemOf (z, .fd (.ct (.lst xs))) (.int j) = (atI xs j).map fun d => (none, .sh d) := by
  simp only [itemOf]; cases atI xs j <;> rfl
theorem item_tupS {z : Option Nat} {xs : List D} {j : Int} : itemOf (z, .fd (.sh (.tup xs))) (.int j) = (atI xs j).map fun d => (none, .sh d) := by
  simp only [itemOf]; cases atI xs j <;> rfl
theorem wO_map {α β : Type} {o : Option α} {f : α → β} {q : β → Prop} : wO (o.map f) q = wO o fun a => q (f a) := by cases o <;> rfl
theorem wO_bind {α β : Type} {o : Option α} {f : α → Option β} {q : β → Prop} : wO (o.bind f) q = wO o fun a => wO (f a) q := by cases o <;> rfl
/-- an item by its place -/
theorem wO_at {α : Type} {xs : List α} {j : Int} {d : α} {q : α → Prop} (h0 : 0 ≤ j) (h : xs[j.toNat]? = some d) (k : q d) : wO (atI xs j) q := by
  rw [atI_of h0 h]; exact k
theorem wO_atN {α : Type} {xs : List α} {j : Nat} {d : α} {q : α → Prop} (h : xs[j]? = some d) (k : q d) : wO (atI xs (j : Int)) q := by
  rw [atI_nat h]; exact k
theorem wO_last {α : Type} {xs : List α} {d : α} {q : α → Prop} (k : q d) : wO (atI (xs ++ [d]) (-1)) q := by
  rw [atI_last]; exact k
theorem isi_int_i {j : Int} : isiD ["int"] (.int j) = some true := rfl
theorem isi_int_b {b : Bool} : isiD ["int"] (.bl b) = some true := rfl
theorem isi_int_n : isiD ["int"] .non = some false := rfl
theorem isi_int_t {xs : List D} : isiD ["int"] (.tup xs) = some false := rfl
theorem isi_int_l {xs : List D} : isiD ["int"] (.lst xs) = some false := rfl
theorem isi_int_s {x : Str} : isiD ["int"] (.str x) = some false := rfl
theorem isi_bool_i {j : Int} : isiD ["bool"] (.int j) = some false := rfl
theorem isi_bool_b {b : Bool} : isiD ["bool"] (.bl b) = some true := rfl
theorem isi_bool_n : isiD ["bool"] .non = some false := rfl
theorem isi_tl_t {xs : List D} : isiD ["tuple", "list"] (.tup xs) = some true := rfl
theorem isi_tl_l {xs : List D} : isiD ["tuple", "list"] (.lst xs) = some true := rfl
theorem isi_tl_i {j : Int} : isiD ["tuple", "list"] (.int j) = some false := rfl
theorem isi_tl_n : isiD ["tuple", "list"] .non = some false := rfl
theorem isi_t_t {xs : List D} : isiD ["tuple"] (.tup xs) = some true := rfl
theorem isi_t_l {xs : List D} : isiD ["tuple"] (.lst xs) = some false := rfl
theorem isi_l_t {xs : List D} : isiD ["list"] (.tup xs) = some false := rfl
theorem isi_l_l {xs : List D} : isiD ["list"] (.lst xs) = some true := rfl
theorem slice_l {xs : List D} {lo hi : Option Int} : sliceD (.lst xs) lo hi = some (.lst (cutL xs lo hi)) := rfl
theorem slice_t {xs : List D} {lo hi : Option Int} : sliceD (.tup xs) lo hi = some (.sh (.tup (cutL xs lo hi))) := rfl
theorem toD_rcO {c : Str} {ns : List Str} {fs : List Fd} : O.toD (.rc (.ob c ns) fs) = .ob c ns (fs.map Fd.toD) := rfl
theorem toD_ct {c : Ct} : O.toD (.fd (.ct c)) = c.toD := rfl
theorem shO_sh {d : D} : shO (.fd (.sh d)) = some d := rfl
theorem blO_bl {b : Bool} : blO (.fd (.sh (.bl b))) = some b := rfl
theorem blD_bl {b : Bool} : blD (.bl b) = some b := rfl
theorem intO_i {j : Int} : intO (.int j) = some j := rfl
theorem seq_l {xs : List D} : seqO (.lst xs) = some xs := rfl
theorem seq_t {xs : List D} : seqO (.tup xs) = some xs := rfl
theorem seq_f {xs : List D} : seqO (.fz xs) = some xs := rfl
theorem ownL_l {xs : List D} : ownL (.fd (.ct (.lst xs))) = some xs := rfl
theorem two_ap {a b : O} : twoO [a, b] = some (a, b) := rfl
theorem isSh_s {d : D} : isSh (.fd (.sh d)) = true := rfl
theorem made_ok {as : List (Option Nat)} {Q : O → Env → Prop} {o : O} {fs : Env} : madeQ as ρ Q (.fd (.sh .non)) (some o :: fs) = Q o (putBack ρ as fs ρ) := rfl
theorem small512 {j : Int} (h0 : -9223372036854775808 ≤ j) (h : j ≤ 9223372036854775808) : j.natAbs < P512 := Nat.lt_trans (by omega : j.natAbs < 18446744073709551616) p512
end

/-! ### ranges whose bounds stay closed -/
@[irreducible] def inR (j : Int) : Bool := decide (-2000 ≤ j ∧ j ≤ 2000)
theorem inR_iff {j : Int} : inR j = true ↔ -2000 ≤ j ∧ j ≤ 2000 := by
  unfold inR
  exact decide_eq_true_iff
theorem inR_nat {n : Nat} (h : n ≤ 2000) : inR (n : Int) = true := inR_iff.mpr (by omega)
def rngA1 : List D → M (List D)
  | [.int j] => if inR j = true then mPure (rngD 0 j.toNat) else fun _ => .bad
  | _ => fun _ => .bad
def rngA2 : List D → M (List D)
  | [.int i, .int j] => if inR i = true ∧ inR j = true then mPure (rngD i (j - i).toNat) else fun _ => .bad
  | _ => fun _ => .bad
theorem rngA1_le (ds : List D) (ρ : DL.Env) : rngA1 ds ρ = .bad ∨ rngA1 ds ρ = rng1 ds ρ := by
  match ds with
  | [.int j] =>
    by_cases h : inR j = true
    · right
      have h2 := inR_iff.mp h
      unfold rngA1 rng1
      simp only
      rw [if_pos h, if_pos (by constructor <;> omega)]
    · left
      unfold rngA1
      simp only
      rw [if_neg h]
  | [] => exact .inl rfl
  | .non :: _ => exact .inl rfl
  | .bl _ :: _ => exact .inl rfl
  | .str _ :: _ => exact .inl rfl
  | .tup _ :: _ => exact .inl rfl
  | .lst _ :: _ => exact .inl rfl
  | .fz _ :: _ => exact .inl rfl
  | .dk _ _ :: _ => exact .inl rfl
  | .dt _ _ :: _ => exact .inl rfl
  | .ob _ _ _ :: _ => exact .inl rfl
  | .int _ :: _ :: _ => exact .inl rfl
theorem rngA2_le (ds : List D) (ρ : DL.Env) : rngA2 ds ρ = .bad ∨ rngA2 ds ρ = rng2 ds ρ := by
  by_cases hd : ∃ i j, ds = [.int i, .int j]
  · obtain ⟨i, j, rfl⟩ := hd
    by_cases h : inR i = true ∧ inR j = true
    · right
      have h2 := inR_iff.mp h.1
      have h3 := inR_iff.mp h.2
      unfold rngA2 rng2
      simp only
      rw [if_pos h, if_pos (by refine ⟨?_, ?_, ?_, ?_⟩ <;> omega)]
    · left
      unfold rngA2
      simp only
      rw [if_neg h]
  · left
    unfold rngA2
    split
    · exact absurd ⟨_, _, rfl⟩ hd
    · rfl
section
variable {X : Cx} {W : WX'} {tg e : Expr} {p : Bool}
theorem it_le {κ : Kx} {ms : M (List D)} {f g : List D → M (List D)} (hfg : ∀ ds ρ, f ds ρ = .bad ∨ f ds ρ = g ds ρ) : ∀ σ H R, tIt κ W p (mBind ms f) σ H R → tIt κ W p (mBind ms g) σ H R := fun σ H R ⟨A, F, ρ, τ, υ, gg, h⟩ => by
  refine ⟨A, F, ρ, τ, υ, gg, ?_⟩
  unfold mBind at h ⊢
  cases q : ms ρ with
  | bad => rw [q] at h; exact h
  | exc x ρ' => rw [q] at h; exact h
  | ok ds ρ' =>
    rw [q] at h
    simp only at h ⊢
    rcases hfg ds ρ' with z | z
    · rw [z] at h; exact h.elim
    · rw [← z]; exact h
theorem dI_rngA1 {κ : Kx} {ms : M (List D)} (h : PI X tg e (iRng1 (tVs κ W p ms))) : PI X tg e (tIt κ W p (mBind ms rngA1)) := pi_imp (dI_rng1 h) (it_le rngA1_le)
theorem dI_rngA2 {κ : Kx} {ms : M (List D)} (h : PI X tg e (iRng2 (tVs κ W p ms))) : PI X tg e (tIt κ W p (mBind ms rngA2)) := pi_imp (dI_rng2 h) (it_le rngA2_le)
end
theorem wM_rngA1 {j : Int} {ρ : DL.Env} {Q : List D → DL.Env → Prop} {X : D → DL.Env → Prop} : wM (rngA1 [.int j] ρ) Q X = (inR j = true ∧ Q (rngD 0 j.toNat) ρ) := by
  unfold rngA1
  simp only [wM_iteB, wM_pure]
theorem wM_rngA2 {j k : Int} {ρ : DL.Env} {Q : List D → DL.Env → Prop} {X : D → DL.Env → Prop} : wM (rngA2 [.int j, .int k] ρ) Q X = ((inR j = true ∧ inR k = true) ∧ Q (rngD j (k - j).toNat) ρ) := by
  unfold rngA2
  simp only [wM_iteB, wM_pure]
theorem inR_of {j : Int} (h0 : -2000 ≤ j) (h : j ≤ 2000) : inR j = true := inR_iff.mpr (by omega)
/-! ### small bounds that are true -/
theorem len0 {α : Type} : (([] : List α).length ≤ lim) = True := eq_true (by show 0 ≤ 16777216; decide)
theorem len1 {α : Type} {a : α} : ([a].length ≤ lim) = True := eq_true (by show 1 ≤ 16777216; decide)
theorem len2 {α : Type} {a b : α} : ([a, b].length ≤ lim) = True := eq_true (by show 2 ≤ 16777216; decide)
theorem len3 {α : Type} {a b c : α} : ([a, b, c].length ≤ lim) = True := eq_true (by show 3 ≤ 16777216; decide)
theorem len4 {α : Type} {a b c d : α} : ([a, b, c, d].length ≤ lim) = True := eq_true (by show 4 ≤ 16777216; decide)
theorem len5 {α : Type} {a b c d e : α} : ([a, b, c, d, e].length ≤ lim) = True := eq_true (by show 5 ≤ 16777216; decide)
theorem len6 {α : Type} {a b c d e f : α} : ([a, b, c, d, e, f].length ≤ lim) = True := eq_true (by show 6 ≤ 16777216; decide)
theorem abs2 : ((2 : Int).natAbs < P512) = True := eq_true (small512 (by decide) (by decide))
theorem pos2 : ((0 : Int) < 2) = True := eq_true (by decide)
/-! ### displays -/
theorem wM_consP {mk mv : M D} {ms : M (List (D × D))} {ρ : DL.Env} {Q : List (D × D) → DL.Env → Prop} {X : D → DL.Env → Prop} : wM (mConsP mk mv ms ρ) Q X = wM (mk ρ) (fun k ρ1 => wM (mv ρ1) (fun v ρ2 => wM (ms ρ2) (fun ds ρ3 => Q ((k, v) :: ds) ρ3) X) X) X := by
  unfold mConsP
  simp only [wM_bind, wM_pure]
theorem wM_disp {m : M (List (D × D))} {ρ : DL.Env} {Q : O → DL.Env → Prop} {X : D → DL.Env → Prop} : wM (mDisp m ρ) Q X = wM (m ρ) (fun ds ρ1 => wO (keysD (ds.map (·.1))) fun ks => (ks.Nodup ∧ ds.length ≤ 15) ∧ Q (.fd (.ct (.dk ks (ds.map (·.2))))) ρ1) X := by
  unfold mDisp
  rw [wM_bind]
  congr
  funext ds ρ1
  cases keysD (ds.map (·.1)) with
  | none => rfl
  | some ks => simp only [wO_some, wM_iteB, wM_pure]
theorem isDk_dk {ks : List Key} {vs : List D} : isDk (.fd (.ct (.dk ks vs))) = true := rfl
theorem isDk_dt {ks : List (List Key)} {vs : List D} : isDk (.fd (.ct (.dt ks vs))) = true := rfl
end DL

end

section
set_option Elab.async false
set_option linter.all false
set_option maxRecDepth 100000
/-! EX, part Y: the classes' fields; numbers, rows, keys as data. -/
namespace DL
open PySem L2 RZ PyProof.Rows
/-- the fields of the package's classes -/
def tblR0 : List (Str × Str) := [("Line", "row"), ("Line", "number"), ("Line", "spot"), ("Scope", "modules"), ("Scope", "known"), ("Scope", "stepped"), ("Work", "design"), ("Work", "names"), ("Work", "signals"), ("Work", "later"), ("Work", "waiting"), ("Work", "given"), ("Flat", "design")]
def tblR1 : List (Str × Str) := [("Flat", "laid"), ("Graph", "leaves"), ("Graph", "gates"), ("Builder", "leaves"), ("Builder", "gates"), ("Builder", "places"), ("Machine", "graph"), ("Machine", "inputs"), ("Machine", "resets"), ("Machine", "nexts"), ("Machine", "wish"), ("Unrolled", "graph"), ("Unrolled", "states")]
def tblR2 : List (Str × Str) := [("Unrolled", "wishes"), ("Sight", "row"), ("Sight", "trues"), ("Sight", "places"), ("Sight", "falses"), ("Sight", "goods"), ("Found", "assignment"), ("Barred", "lines"), ("Search", "many"), ("Search", "assumed"), ("Search", "sight"), ("Search", "lines"), ("Search", "trail")]
def tblR3 : List (Str × Str) := [("Broken", "rows"), ("FirstBreak", "rows"), ("FirstBreak", "papers"), ("NoBreak", "papers"), ("KeptBySteps", "base"), ("KeptBySteps", "step"), ("OpenSteps", "state"), ("OpenSteps", "rows"), ("Way", "state"), ("Way", "inputs"), ("Shut", "clause"), ("Kept", "clauses"), ("Kept", "papers")]
def tblR4 : List (Str × Str) := [("Frames", "machine"), ("Frames", "levels"), ("Frames", "stack"), ("Open", "mask"), ("Open", "lines"), ("Fallen", "rows"), ("Before", "outer"), ("Before", "now"), ("Before", "past"), ("Before", "later"), ("Project", "frame"), ("Project", "now"), ("Project", "past")]
def tblR5 : List (Str × Str) := [("Project", "later")]
def tblRows : List (Str × Str) := tblR0 ++ (tblR1 ++ (tblR2 ++ (tblR3 ++ (tblR4 ++ (tblR5)))))
def tbl (c f : Str) : Bool := decide ((c, f) ∈ tblRows)
theorem tbl_Line_row : tbl "Line" "row" = true := by decide +kernel
theorem tbl_Line_number : tbl "Line" "number" = true := by decide +kernel
theorem tbl_Line_spot : tbl "Line" "spot" = true := by decide +kernel
theorem tbl_Scope_modules : tbl "Scope" "modules" = true := by decide +kernel
theorem tbl_Scope_known : tbl "Scope" "known" = true := by decide +kernel
theorem tbl_Scope_stepped : tbl "Scope" "stepped" = true := by decide +kernel
theorem tbl_Work_design : tbl "Work" "design" = true := by decide +kernel
theorem tbl_Work_names : tbl "Work" "names" = true := by decide +kernel
theorem tbl_Work_signals : tbl "Work" "signals" = true := by decide +kernel
theorem tbl_Work_later : tbl "Work" "later" = true := by decide +kernel
theorem tbl_Work_waiting : tbl "Work" "waiting" = true := by decide +kernel
theorem tbl_Work_given : tbl "Work" "given" = true := by decide +kernel
theorem tbl_Flat_design : tbl "Flat" "design" = true := by decide +kernel
theorem tbl_Flat_laid : tbl "Flat" "laid" = true := by decide +kernel
theorem tbl_Graph_leaves : tbl "Graph" "leaves" = true := by decide +kernel
theorem tbl_Graph_gates : tbl "Graph" "gates" = true := by decide +kernel
theorem tbl_Builder_leaves : tbl "Builder" "leaves" = true := by decide +kernel
theorem tbl_Builder_gates : tbl "Builder" "gates" = true := by decide +kernel
theorem tbl_Builder_places : tbl "Builder" "places" = true := by decide +kernel
theorem tbl_Machine_graph : tbl "Machine" "graph" = true := by decide +kernel
theorem tbl_Machine_inputs : tbl "Machine" "inputs" = true := by decide +kernel
theorem tbl_Machine_resets : tbl "Machine" "resets" = true := by decide +kernel
theorem tbl_Machine_nexts : tbl "Machine" "nexts" = true := by decide +kernel
theorem tbl_Machine_wish : tbl "Machine" "wish" = true := by decide +kernel
theorem tbl_Unrolled_graph : tbl "Unrolled" "graph" = true := by decide +kernel
theorem tbl_Unrolled_states : tbl "Unrolled" "states" = true := by decide +kernel
theorem tbl_Unrolled_wishes : tbl "Unrolled" "wishes" = true := by decide +kernel
theorem tbl_Sight_row : tbl "Sight" "row" = true := by decide +kernel
theorem tbl_Sight_trues : tbl "Sight" "trues" = true := by decide +kernel
theorem tbl_Sight_places : tbl "Sight" "places" = true := by decide +kernel
theorem tbl_Sight_falses : tbl "Sight" "falses" = true := by decide +kernel
theorem tbl_Sight_goods : tbl "Sight" "goods" = true := by decide +kernel
theorem tbl_Found_assignment : tbl "Found" "assignment" = true := by decide +kernel
theorem tbl_Barred_lines : tbl "Barred" "lines" = true := by decide +kernel
theorem tbl_Search_many : tbl "Search" "many" = true := by decide +kernel
theorem tbl_Search_assumed : tbl "Search" "assumed" = true := by decide +kernel
theorem tbl_Search_sight : tbl "Search" "sight" = true := by decide +kernel
theorem tbl_Search_lines : tbl "Search" "lines" = true := by decide +kernel
theorem tbl_Search_trail : tbl "Search" "trail" = true := by decide +kernel
theorem tbl_Broken_rows : tbl "Broken" "rows" = true := by decide +kernel
theorem tbl_FirstBreak_rows : tbl "FirstBreak" "rows" = true := by decide +kernel
theorem tbl_FirstBreak_papers : tbl "FirstBreak" "papers" = true := by decide +kernel
theorem tbl_NoBreak_papers : tbl "NoBreak" "papers" = true := by decide +kernel
theorem tbl_KeptBySteps_base : tbl "KeptBySteps" "base" = true := by decide +kernel
theorem tbl_KeptBySteps_step : tbl "KeptBySteps" "step" = true := by decide +kernel
theorem tbl_OpenSteps_state : tbl "OpenSteps" "state" = true := by decide +kernel
theorem tbl_OpenSteps_rows : tbl "OpenSteps" "rows" = true := by decide +kernel
theorem tbl_Way_state : tbl "Way" "state" = true := by decide +kernel
theorem tbl_Way_inputs : tbl "Way" "inputs" = true := by decide +kernel
theorem tbl_Shut_clause : tbl "Shut" "clause" = true := by decide +kernel
theorem tbl_Kept_clauses : tbl "Kept" "clauses" = true := by decide +kernel
theorem tbl_Kept_papers : tbl "Kept" "papers" = true := by decide +kernel
theorem tbl_Frames_machine : tbl "Frames" "machine" = true := by decide +kernel
theorem tbl_Frames_levels : tbl "Frames" "levels" = true := by decide +kernel
theorem tbl_Frames_stack : tbl "Frames" "stack" = true := by decide +kernel
theorem tbl_Open_mask : tbl "Open" "mask" = true := by decide +kernel
theorem tbl_Open_lines : tbl "Open" "lines" = true := by decide +kernel
theorem tbl_Fallen_rows : tbl "Fallen" "rows" = true := by decide +kernel
theorem tbl_Before_outer : tbl "Before" "outer" = true := by decide +kernel
theorem tbl_Before_now : tbl "Before" "now" = true := by decide +kernel
theorem tbl_Before_past : tbl "Before" "past" = true := by decide +kernel
theorem tbl_Before_later : tbl "Before" "later" = true := by decide +kernel
theorem tbl_Project_frame : tbl "Project" "frame" = true := by decide +kernel
theorem tbl_Project_now : tbl "Project" "now" = true := by decide +kernel
theorem tbl_Project_past : tbl "Project" "past" = true := by decide +kernel
theorem tbl_Project_later : tbl "Project" "later" = true := by decide +kernel
theorem fields_mkA {κ : Kx} (h : ∀ p ∈ tblRows, (∃ C, κ.mg p.1 = some (.ref C) ∧ Cls κ.K C ∧ NoAttr κ.K C p.2) ∨ κ.mg p.1 = none) : FieldsOk κ tbl := fun c f e C hC => by
  rcases h (c, f) (of_decide_eq_true e) with ⟨C', h1, h2, h3⟩ | h1
  · rw [hC] at h1
    cases h1
    exact ⟨h2, h3⟩
  · rw [hC] at h1
    cases h1
section
variable {Q : O → DL.Env → Prop} {X : D → DL.Env → Prop} {ρ : DL.Env}
/-! ### numbers -/
def natD (n : Nat) : D := .int (n : Int)
theorem toPy_int {i : Int} : toPy (.int i) = some (.int i) := rfl
theorem rb_nat {n : Nat} (h : n < 10000000000) : RB 0 10 (natD n) := RB.nat (by omega) (by omega)
theorem fls_nat : ∀ (ls : List Nat), flsD (ls.map natD) = some (ls.map fun n : Nat => V.int (n : Int))
  | [] => rfl
  | n :: ls => by simp only [List.map_cons, flsD, natD, flD, fls_nat ls]
theorem inV_nat {i : Int} {ls : List Nat} : inV (.int i) (ls.map fun n : Nat => V.int (n : Int)) = decide (∃ l ∈ ls, (l : Int) = i) := by
  induction ls with
  | nil => simp [inV]
  | cons n ls ih =>
    have e : inV (.int i) (V.int (n : Int) :: ls.map fun n : Nat => V.int (n : Int)) = (decide ((n : Int) = i) || inV (.int i) (ls.map fun n : Nat => V.int (n : Int))) := by
      simp only [inV, List.any_cons]
      congr 1
    rw [List.map_cons, e, ih]
    rw [Bool.eq_iff_iff]
    simp
theorem in_natT {i : Int} {ls : List Nat} : inO false (.int i) (.tup (ls.map natD)) = some (.sh (.bl (decide (∃ l ∈ ls, (l : Int) = i)))) := by
  simp only [inO, inB, flD, fls_nat, inV_nat]
  rfl
theorem in_natL {i : Int} {ls : List Nat} : inO false (.int i) (.lst (ls.map natD)) = some (.sh (.bl (decide (∃ l ∈ ls, (l : Int) = i)))) := by
  simp only [inO, inB, flD, fls_nat, inV_nat]
  rfl
/-! ### what a dict holds -/
theorem lookK_put {κ α : Type} [DecidableEq κ] {k k' : κ} {d : α} : ∀ {ks : List κ} {vs : List α}, ks.length = vs.length → lookK (putKs ks k) (putVs ks vs k d) k' = if k = k' then some d else lookK ks vs k' := by
  have set : ∀ {ks : List κ} {vs : List α}, ks.length = vs.length → k ∈ ks → lookK ks (setAt ks vs k d) k' = if k = k' then some d else lookK ks vs k' := by
    intro ks
    induction ks with
    | nil => intro vs _ h; simp at h
    | cons n ns ih =>
      intro vs hl hk
      cases vs with
      | nil => simp at hl
      | cons v vs =>
        simp only [setAt, lookK]
        by_cases hn : n = k
        · subst hn
          by_cases h : n = k'
          · simp [h]
          · simp only [if_true, h, if_false]
            by_cases hm : n ∈ ns
            · rw [ih (by simpa using hl) hm, if_neg h]
            · have : ∀ {ns : List κ} {vs : List α}, n ∉ ns → setAt ns vs n d = vs := by
                intro ns
                induction ns with
                | nil => intro vs _; cases vs <;> rfl
                | cons m ms ih =>
                  intro vs hm
                  cases vs with
                  | nil => rfl
                  | cons v vs =>
                    simp only [List.mem_cons, not_or] at hm
                    simp only [setAt]
                    rw [if_neg (Ne.symm hm.1), ih hm.2]
              rw [this hm]
        · have hm : k ∈ ns := by
            rcases List.mem_cons.mp hk with z | z
            · exact absurd z.symm hn
            · exact z
          simp only [hn, if_false]
          by_cases h : n = k'
          · subst h
            rw [if_pos rfl, if_neg (Ne.symm hn), if_pos rfl]
          · rw [if_neg h, if_neg h]
            exact ih (by simpa using hl) hm
  have app : ∀ {ks : List κ} {vs : List α}, ks.length = vs.length → k ∉ ks → lookK (ks ++ [k]) (vs ++ [d]) k' = if k = k' then some d else lookK ks vs k' := by
    intro ks
    induction ks with
    | nil => intro vs hl _; cases vs with
      | nil => rfl
      | cons v vs => simp at hl
    | cons n ns ih =>
      intro vs hl hk
      cases vs with
      | nil => simp at hl
      | cons v vs =>
        simp only [List.mem_cons, not_or] at hk
        simp only [List.cons_append, lookK]
        by_cases h : n = k'
        · subst h
          rw [if_pos rfl, if_neg hk.1, if_pos rfl]
        · rw [if_neg h, if_neg h]
          exact ih (by simpa using hl) hk.2
  intro ks vs hl
  unfold putKs putVs
  by_cases hk : k ∈ ks
  · rw [if_pos hk, if_pos hk]; exact set hl hk
  · rw [if_neg hk, if_neg hk]; exact app hl hk
theorem putVs_len {κ α : Type} [DecidableEq κ] {k : κ} {d : α} {ks : List κ} {vs : List α} (h : ks.length = vs.length) : (putKs ks k).length = (putVs ks vs k d).length := by
  have set : ∀ {ks : List κ} {vs : List α}, (setAt ks vs k d).length = vs.length := by
    intro ks
    induction ks with
    | nil => intro vs; cases vs <;> rfl
    | cons n ns ih =>
      intro vs
      cases vs with
      | nil => rfl
      | cons v vs => simp only [setAt, List.length_cons, ih]
  unfold putKs putVs
  split
  · rw [set]; exact h
  · simp [h]
theorem putKs_le {κ : Type} [DecidableEq κ] {k : κ} {ks : List κ} : (putKs ks k).length ≤ ks.length + 1 := by
  unfold putKs
  split <;> simp
theorem putKs_mem {κ : Type} [DecidableEq κ] {k j : κ} {ks : List κ} : j ∈ putKs ks k ↔ j ∈ ks ∨ j = k := by
  unfold putKs
  split
  · rename_i h
    constructor
    · exact .inl
    · rintro (z | rfl)
      · exact z
      · exact h
  · simp
theorem putKs_nd {κ : Type} [DecidableEq κ] {k : κ} {ks : List κ} (h : ks.Nodup) : (putKs ks k).Nodup := by
  unfold putKs
  split
  · exact h
  · rename_i hk
    exact List.nodup_append.mpr ⟨h, by simp, fun a ha b hb => by simp at hb; subst hb; exact fun z => hk (z ▸ ha)⟩
/-! ### the pen -/
theorem pen_w {ns : List Int} (hl : ns.length ≤ 63) (q : ∀ p fs, PenOk 0 p → Q p fs) : wM (sem__law_pen [.sh (.fz (ns.map D.int))]) Q X := by
  obtain ⟨p, fs, e, h⟩ := pen_spec hl
  rw [e]
  exact q p fs h
theorem draw_w {k : Nat} {p : O} {many : Int} (hp : PenOk k p) (h1 : 1 ≤ many) (h2 : many ≤ 1000000) (hk : k ≤ 1073741824) (q : ∀ r p', 0 ≤ r → r < many → PenOk (k + 1) p' → Q (.sh (.int r)) [some p', some (.sh (.int many))]) :
    wM (sem__law_draw [p, .sh (.int many)]) Q X := by
  obtain ⟨r, p', e, h3, h4, h5⟩ := draw_spec hp h1 (small512 (by omega) (by omega)) hk
  rw [e]
  exact q r p' h3 h4 h5
/-- a drawn number as one from 0 -/
theorem drawN_w {k : Nat} {p : O} {many : Nat} (hp : PenOk k p) (h1 : 1 ≤ many) (h2 : many ≤ 1000000) (hk : k ≤ 1073741824) (q : ∀ r p', r < many → PenOk (k + 1) p' → Q (.sh (natD r)) [some p', some (.sh (.int (many : Int)))]) :
    wM (sem__law_draw [p, .sh (.int (many : Int))]) Q X := by
  refine draw_w hp (by omega) (by omega) hk fun r p' h3 h4 h5 => ?_
  have e : r = ((r.toNat : Nat) : Int) := by omega
  rw [e]
  exact q r.toNat p' (by omega) h5
theorem pick_w {k : Nat} {p o : O} {xs : List D} (hp : PenOk k p) (ho : SeqO o xs) (h1 : xs ≠ []) (h2 : xs.length ≤ lim) (hk : k ≤ 1073741824) (q : ∀ d p', d ∈ xs → PenOk (k + 1) p' → Q (.sh d) [some p', some o]) :
    wM (sem__law_pick [p, o]) Q X := by
  obtain ⟨d, p', e, h3, h4⟩ := pick_spec hp ho h1 h2 hk
  rw [e]
  exact q d p' h3 h4
/-! ### all rows of bits -/
def bitsD (bs : List Nat) : D := .tup (bs.map natD)
/-! _law_longer(_law_rows_here, _law_many): slots 0 _law_rows_here, 1 _law_many, 2 _law_found, 3 _law_row, 4 _law_number -/
def d_x_law_longer : MS :=
  (sSeq (sAsg 2 (mLst (mPure [])))
  (sSeq (sFor (mBind (mNameV 0) seqD) (bName 3)
  (sAsg 2 (mOpN 2 addD (mMap (fun o => ((none : Option Nat), o)) (mLc [4] (mBind (mCons (mNameV 1) (mPure [])) rngA1) (bName 4) (mPure true) (mMap O.toD (mOpN 3 addD (mMap (fun d => ((none : Option Nat), O.sh d)) (mTup (mCons (mNameV 4) (mPure [])))))))))))
  (sRet (mNameM 2))))
def sem_x_law_longer : Sem := semOf 5 2 [0, 1] d_x_law_longer
/-! _law_rows(_law_many): slots 0 _law_many, 1 _law_rows_here, 2 _law_k -/
def d_x_law_rows : MS :=
  (sSeq (sAsg 1 (mLst (mCons (mTup (mPure [])) (mPure []))))
  (sSeq (sFor (mBind (mCons (mNameV 0) (mPure [])) rngA1) (bName 2)
  (sAsg 1 (mCallF sem_x_law_longer [some 1, none] (mHas 1 (mConsO (mMap O.sh (mPure (.int 2))) (mPure []))))))
  (sRet (mNameM 1))))
def sem_x_law_rows : Sem := semOf 3 1 [0] d_x_law_rows

def longL (rs : List (List Nat)) (m : Nat) : List (List Nat) := rs.flatMap fun r => (List.range m).map fun n => r ++ [n]
def rowsL : Nat → List (List Nat)
  | 0 => [[]]
  | n + 1 => longL (rowsL n) 2
theorem longL_len {rs : List (List Nat)} {m : Nat} : (longL rs m).length = rs.length * m := by
  induction rs with
  | nil => simp [longL]
  | cons r rs ih =>
    have e : longL (r :: rs) m = ((List.range m).map fun n => r ++ [n]) ++ longL rs m := by simp [longL]
    rw [e, List.length_append, ih, List.length_map, List.length_range, List.length_cons, Nat.succ_mul]
    omega
theorem rowsL_len : ∀ n, (rowsL n).length = 2 ^ n
  | 0 => rfl
  | n + 1 => by rw [rowsL, longL_len, rowsL_len n, Nat.pow_succ]
theorem rowsL_mem : ∀ {n : Nat} {bs : List Nat}, bs ∈ rowsL n ↔ bs.length = n ∧ ∀ b ∈ bs, b < 2
  | 0, bs => by
    simp only [rowsL, List.mem_singleton]
    constructor
    · rintro rfl; simp
    · rintro ⟨h, _⟩; exact List.length_eq_zero_iff.mp h
  | n + 1, bs => by
    simp only [rowsL, longL, List.mem_flatMap, List.mem_map, List.mem_range]
    constructor
    · rintro ⟨r, hr, b, hb, rfl⟩
      obtain ⟨h1, h2⟩ := rowsL_mem.mp hr
      refine ⟨by simp [h1], fun c hc => ?_⟩
      rcases List.mem_append.mp hc with hc | hc
      · exact h2 c hc
      · simp at hc; omega
    · rintro ⟨h1, h2⟩
      have hne : bs ≠ [] := by intro z; subst z; simp at h1
      refine ⟨bs.dropLast, rowsL_mem.mpr ⟨by simp [h1], fun b hb => h2 b (List.dropLast_subset _ hb)⟩, bs.getLast hne, h2 _ (List.getLast_mem hne), List.dropLast_concat_getLast hne⟩
theorem rowsL_nd : ∀ n, (rowsL n).Nodup
  | 0 => by simp [rowsL]
  | n + 1 => by
    have ih := rowsL_nd n
    rw [rowsL, longL]
    generalize rowsL n = rs at ih
    induction rs with
    | nil => simp
    | cons r rs ih2 =>
      obtain ⟨h1, h2⟩ := List.nodup_cons.mp ih
      rw [List.flatMap_cons]
      refine List.nodup_append.mpr ⟨?_, ih2 h2, fun a ha b hb z => ?_⟩
      · simp [List.range_succ]
      · simp only [List.mem_map, List.mem_range] at ha
        obtain ⟨i, _, rfl⟩ := ha
        simp only [List.mem_flatMap, List.mem_map, List.mem_range] at hb
        obtain ⟨r', hr', j, _, rfl⟩ := hb
        have := List.append_inj_left' z rfl
        subst this
        exact h1 hr'
end
end DL

end

section
set_option Elab.async false
set_option linter.all false
set_option maxRecDepth 100000
/-! EX, part Z: all rows of bits, told. -/
namespace DL
open PySem L2 RZ PyProof.Rows
section
variable {Q : O → DL.Env → Prop} {X : D → DL.Env → Prop} {ρ : DL.Env}
theorem longer_w {rs : List (List Nat)} {m : Nat} (hm : m ≤ 100) (hl : rs.length * m ≤ 10000000) (q : Q (.lst ((longL rs m).map bitsD)) [some (.sh (.lst (rs.map bitsD))), some (.sh (.int (m : Int)))]) (hr : ∀ r ∈ rs, r.length ≤ 1000) :
    wM (sem_x_law_longer [.lst (rs.map bitsD), .sh (.int (m : Int))]) Q X := by
  refine sem_w [some (.lst (rs.map bitsD)), some (.sh (.int (m : Int))), none, none, none] rfl rfl ?_
  unfold d_x_law_longer
  simp only [wO_some, wO_none, wO_ite, wM_ok, wM_bad, wM_pure, wM_bind, wM_map, wM_iteB, wM_iteM, wM_nameB, wM_nameS, wM_nameV, wM_nameM, wM_asSh, wM_cons, wM_consO, wM_consT, wM_consB, wM_tup, wM_lst, wM_opS, wM_opN, wM_bl, wM_andT, wM_orT, wM_if, wM_andV, wM_orV, wM_tru, wM_neg, wM_part, wM_slice, wM_call, wM_isi, wM_op1, wM_bO, wM_chain, wM_sub, wM_subN, wM_has, wM_callF, wM_make, wM_newK, wM_newT, wM_get1, wM_get2, wM_field, wM_seq, wM_rngA1, wM_rngA2, wM_enumL, wM_enumT, wM_zipL, wM_zipT, wS_seq, wS_next, wS_brk, wS_cont, wS_bad, wS_if, wS_ret, wS_retN, wS_expr, wS_asg, wS_tg, wS_par, wS_app, wS_put, wS_fldX, wO_bName0, wO_bNameS, wO_bTup, wO_bNil, wO_bCons, wO_fillN, wO_fillS, wO_fillP, putBack_some, putBack_none, putBack_nil, slotSh_s, slotSh_sh, slotSh_ct, slotSh_rc, wipe_nil, wipe_cons, back_nil, back_cons, rest_s, rest_n, rest_sh, rest_ct, rest_rc, add_ii, sub_ii, cmp_ii, eq_ii, ne_ii, is_nn, is_tn, is_ln, is_in, is_bn, is_bb, isn_nn, isn_tn, isn_ln, isn_in, len_l, len_t, int_i, int_b, abs_i, tup_l, tup_t, list_l, list_t, f1_ap, f2_ap, tru_b, tru_t, tru_l, tru_n, item_lstS, item_lstO, item_tupS, wO_map, wO_bind, isi_int_i, isi_int_b, isi_int_n, isi_int_t, isi_int_l, isi_int_s, isi_bool_i, isi_bool_b, isi_bool_n, isi_tl_t, isi_tl_l, isi_tl_i, isi_tl_n, isi_t_t, isi_t_l, isi_l_t, isi_l_l, slice_l, slice_t, shO_sh, blO_bl, blD_bl, intO_i, seq_l, seq_t, seq_f, ownL_l, two_ap, isSh_s, made_ok, toD_sh, toD_lst, mod_ii, mul_ii, div_ii, add_ll, add_tt, List.getElem?_cons_zero, List.getElem?_cons_succ, List.set_cons_zero, List.set_cons_succ, Option.join_some, Option.join_none, List.map_cons, List.map_nil, if_true, if_false, Bool.false_eq_true, reduceIte, Bool.true_or, Bool.or_true, Bool.false_or, Bool.true_and, Bool.and_true, Bool.false_and, Bool.and_false, true_and, and_true, Bool.not_true, Bool.not_false, decide_eq_true_eq]
  refine ⟨by show 0 ≤ lim; decide, ?_⟩
  refine wS_forL bitsD rs (fun pre ρ => ∃ a, ρ = [some (.sh (.lst (rs.map bitsD))), some (.sh (.int (m : Int))), some (.lst ((longL pre m).map bitsD)), a, none]) ?_ ?_ ?_
  · simp only [wO_some, wO_none, wO_ite, wM_ok, wM_bad, wM_pure, wM_bind, wM_map, wM_iteB, wM_iteM, wM_nameB, wM_nameS, wM_nameV, wM_nameM, wM_asSh, wM_cons, wM_consO, wM_consT, wM_consB, wM_tup, wM_lst, wM_opS, wM_opN, wM_bl, wM_andT, wM_orT, wM_if, wM_andV, wM_orV, wM_tru, wM_neg, wM_part, wM_slice, wM_call, wM_isi, wM_op1, wM_bO, wM_chain, wM_sub, wM_subN, wM_has, wM_callF, wM_make, wM_newK, wM_newT, wM_get1, wM_get2, wM_field, wM_seq, wM_rngA1, wM_rngA2, wM_enumL, wM_enumT, wM_zipL, wM_zipT, wS_seq, wS_next, wS_brk, wS_cont, wS_bad, wS_if, wS_ret, wS_retN, wS_expr, wS_asg, wS_tg, wS_par, wS_app, wS_put, wS_fldX, wO_bName0, wO_bNameS, wO_bTup, wO_bNil, wO_bCons, wO_fillN, wO_fillS, wO_fillP, putBack_some, putBack_none, putBack_nil, slotSh_s, slotSh_sh, slotSh_ct, slotSh_rc, wipe_nil, wipe_cons, back_nil, back_cons, rest_s, rest_n, rest_sh, rest_ct, rest_rc, add_ii, sub_ii, cmp_ii, eq_ii, ne_ii, is_nn, is_tn, is_ln, is_in, is_bn, is_bb, isn_nn, isn_tn, isn_ln, isn_in, len_l, len_t, int_i, int_b, abs_i, tup_l, tup_t, list_l, list_t, f1_ap, f2_ap, tru_b, tru_t, tru_l, tru_n, item_lstS, item_lstO, item_tupS, wO_map, wO_bind, isi_int_i, isi_int_b, isi_int_n, isi_int_t, isi_int_l, isi_int_s, isi_bool_i, isi_bool_b, isi_bool_n, isi_tl_t, isi_tl_l, isi_tl_i, isi_tl_n, isi_t_t, isi_t_l, isi_l_t, isi_l_l, slice_l, slice_t, shO_sh, blO_bl, blD_bl, intO_i, seq_l, seq_t, seq_f, ownL_l, two_ap, isSh_s, made_ok, toD_sh, toD_lst, mod_ii, mul_ii, div_ii, add_ll, add_tt, List.getElem?_cons_zero, List.getElem?_cons_succ, List.set_cons_zero, List.set_cons_succ, Option.join_some, Option.join_none, List.map_cons, List.map_nil, if_true, if_false, Bool.false_eq_true, reduceIte, Bool.true_or, Bool.or_true, Bool.false_or, Bool.true_and, Bool.and_true, Bool.false_and, Bool.and_false, true_and, and_true, Bool.not_true, Bool.not_false, decide_eq_true_eq]
    exact ⟨none, rfl⟩
  · rintro pre r post _ e ⟨a, rfl⟩
    simp only [wO_some, wO_none, wO_ite, wM_ok, wM_bad, wM_pure, wM_bind, wM_map, wM_iteB, wM_iteM, wM_nameB, wM_nameS, wM_nameV, wM_nameM, wM_asSh, wM_cons, wM_consO, wM_consT, wM_consB, wM_tup, wM_lst, wM_opS, wM_opN, wM_bl, wM_andT, wM_orT, wM_if, wM_andV, wM_orV, wM_tru, wM_neg, wM_part, wM_slice, wM_call, wM_isi, wM_op1, wM_bO, wM_chain, wM_sub, wM_subN, wM_has, wM_callF, wM_make, wM_newK, wM_newT, wM_get1, wM_get2, wM_field, wM_seq, wM_rngA1, wM_rngA2, wM_enumL, wM_enumT, wM_zipL, wM_zipT, wS_seq, wS_next, wS_brk, wS_cont, wS_bad, wS_if, wS_ret, wS_retN, wS_expr, wS_asg, wS_tg, wS_par, wS_app, wS_put, wS_fldX, wO_bName0, wO_bNameS, wO_bTup, wO_bNil, wO_bCons, wO_fillN, wO_fillS, wO_fillP, putBack_some, putBack_none, putBack_nil, slotSh_s, slotSh_sh, slotSh_ct, slotSh_rc, wipe_nil, wipe_cons, back_nil, back_cons, rest_s, rest_n, rest_sh, rest_ct, rest_rc, add_ii, sub_ii, cmp_ii, eq_ii, ne_ii, is_nn, is_tn, is_ln, is_in, is_bn, is_bb, isn_nn, isn_tn, isn_ln, isn_in, len_l, len_t, int_i, int_b, abs_i, tup_l, tup_t, list_l, list_t, f1_ap, f2_ap, tru_b, tru_t, tru_l, tru_n, item_lstS, item_lstO, item_tupS, wO_map, wO_bind, isi_int_i, isi_int_b, isi_int_n, isi_int_t, isi_int_l, isi_int_s, isi_bool_i, isi_bool_b, isi_bool_n, isi_tl_t, isi_tl_l, isi_tl_i, isi_tl_n, isi_t_t, isi_t_l, isi_l_t, isi_l_l, slice_l, slice_t, shO_sh, blO_bl, blD_bl, intO_i, seq_l, seq_t, seq_f, ownL_l, two_ap, isSh_s, made_ok, toD_sh, toD_lst, mod_ii, mul_ii, div_ii, add_ll, add_tt, List.getElem?_cons_zero, List.getElem?_cons_succ, List.set_cons_zero, List.set_cons_succ, Option.join_some, Option.join_none, List.map_cons, List.map_nil, if_true, if_false, Bool.false_eq_true, reduceIte, Bool.true_or, Bool.or_true, Bool.false_or, Bool.true_and, Bool.and_true, Bool.false_and, Bool.and_false, true_and, and_true, Bool.not_true, Bool.not_false, decide_eq_true_eq]
    refine wM_lcM (fun k : Nat => .int (0 + (k : Int))) (List.range m) (fun n => bitsD (r ++ [n])) ?_
    simp only [wO_some, wO_none, wO_ite, wM_ok, wM_bad, wM_pure, wM_bind, wM_map, wM_iteB, wM_iteM, wM_nameB, wM_nameS, wM_nameV, wM_nameM, wM_asSh, wM_cons, wM_consO, wM_consT, wM_consB, wM_tup, wM_lst, wM_opS, wM_opN, wM_bl, wM_andT, wM_orT, wM_if, wM_andV, wM_orV, wM_tru, wM_neg, wM_part, wM_slice, wM_call, wM_isi, wM_op1, wM_bO, wM_chain, wM_sub, wM_subN, wM_has, wM_callF, wM_make, wM_newK, wM_newT, wM_get1, wM_get2, wM_field, wM_seq, wM_rngA1, wM_rngA2, wM_enumL, wM_enumT, wM_zipL, wM_zipT, wS_seq, wS_next, wS_brk, wS_cont, wS_bad, wS_if, wS_ret, wS_retN, wS_expr, wS_asg, wS_tg, wS_par, wS_app, wS_put, wS_fldX, wO_bName0, wO_bNameS, wO_bTup, wO_bNil, wO_bCons, wO_fillN, wO_fillS, wO_fillP, putBack_some, putBack_none, putBack_nil, slotSh_s, slotSh_sh, slotSh_ct, slotSh_rc, wipe_nil, wipe_cons, back_nil, back_cons, rest_s, rest_n, rest_sh, rest_ct, rest_rc, add_ii, sub_ii, cmp_ii, eq_ii, ne_ii, is_nn, is_tn, is_ln, is_in, is_bn, is_bb, isn_nn, isn_tn, isn_ln, isn_in, len_l, len_t, int_i, int_b, abs_i, tup_l, tup_t, list_l, list_t, f1_ap, f2_ap, tru_b, tru_t, tru_l, tru_n, item_lstS, item_lstO, item_tupS, wO_map, wO_bind, isi_int_i, isi_int_b, isi_int_n, isi_int_t, isi_int_l, isi_int_s, isi_bool_i, isi_bool_b, isi_bool_n, isi_tl_t, isi_tl_l, isi_tl_i, isi_tl_n, isi_t_t, isi_t_l, isi_l_t, isi_l_l, slice_l, slice_t, shO_sh, blO_bl, blD_bl, intO_i, seq_l, seq_t, seq_f, ownL_l, two_ap, isSh_s, made_ok, toD_sh, toD_lst, mod_ii, mul_ii, div_ii, add_ll, add_tt, List.getElem?_cons_zero, List.getElem?_cons_succ, List.set_cons_zero, List.set_cons_succ, Option.join_some, Option.join_none, List.map_cons, List.map_nil, if_true, if_false, Bool.false_eq_true, reduceIte, Bool.true_or, Bool.or_true, Bool.false_or, Bool.true_and, Bool.and_true, Bool.false_and, Bool.and_false, true_and, and_true, Bool.not_true, Bool.not_false, decide_eq_true_eq]
    have hrl := hr r (by rw [e]; simp)
    refine ⟨inR_nat (by omega), by simp [rngD], by simp [lim]; omega, fun n hn => ?_, ?_⟩
    · simp only [bitsD, wO_some, wO_none, wO_ite, wM_ok, wM_bad, wM_pure, wM_bind, wM_map, wM_iteB, wM_iteM, wM_nameB, wM_nameS, wM_nameV, wM_nameM, wM_asSh, wM_cons, wM_consO, wM_consT, wM_consB, wM_tup, wM_lst, wM_opS, wM_opN, wM_bl, wM_andT, wM_orT, wM_if, wM_andV, wM_orV, wM_tru, wM_neg, wM_part, wM_slice, wM_call, wM_isi, wM_op1, wM_bO, wM_chain, wM_sub, wM_subN, wM_has, wM_callF, wM_make, wM_newK, wM_newT, wM_get1, wM_get2, wM_field, wM_seq, wM_rngA1, wM_rngA2, wM_enumL, wM_enumT, wM_zipL, wM_zipT, wS_seq, wS_next, wS_brk, wS_cont, wS_bad, wS_if, wS_ret, wS_retN, wS_expr, wS_asg, wS_tg, wS_par, wS_app, wS_put, wS_fldX, wO_bName0, wO_bNameS, wO_bTup, wO_bNil, wO_bCons, wO_fillN, wO_fillS, wO_fillP, putBack_some, putBack_none, putBack_nil, slotSh_s, slotSh_sh, slotSh_ct, slotSh_rc, wipe_nil, wipe_cons, back_nil, back_cons, rest_s, rest_n, rest_sh, rest_ct, rest_rc, add_ii, sub_ii, cmp_ii, eq_ii, ne_ii, is_nn, is_tn, is_ln, is_in, is_bn, is_bb, isn_nn, isn_tn, isn_ln, isn_in, len_l, len_t, int_i, int_b, abs_i, tup_l, tup_t, list_l, list_t, f1_ap, f2_ap, tru_b, tru_t, tru_l, tru_n, item_lstS, item_lstO, item_tupS, wO_map, wO_bind, isi_int_i, isi_int_b, isi_int_n, isi_int_t, isi_int_l, isi_int_s, isi_bool_i, isi_bool_b, isi_bool_n, isi_tl_t, isi_tl_l, isi_tl_i, isi_tl_n, isi_t_t, isi_t_l, isi_l_t, isi_l_l, slice_l, slice_t, shO_sh, blO_bl, blD_bl, intO_i, seq_l, seq_t, seq_f, ownL_l, two_ap, isSh_s, made_ok, toD_sh, toD_lst, mod_ii, mul_ii, div_ii, add_ll, add_tt, List.getElem?_cons_zero, List.getElem?_cons_succ, List.set_cons_zero, List.set_cons_succ, Option.join_some, Option.join_none, List.map_cons, List.map_nil, if_true, if_false, Bool.false_eq_true, reduceIte, Bool.true_or, Bool.or_true, Bool.false_or, Bool.true_and, Bool.and_true, Bool.false_and, Bool.and_false, true_and, and_true, Bool.not_true, Bool.not_false, decide_eq_true_eq]
      refine ⟨by show 1 ≤ lim; decide, by simp [lim]; omega, ?_⟩
      simp [natD]
    · have hle : (longL (pre ++ [r]) m).length ≤ rs.length * m := by
        rw [longL_len, e]
        exact Nat.mul_le_mul_right _ (by simp)
      have e2 : longL (pre ++ [r]) m = longL pre m ++ (List.range m).map fun n => r ++ [n] := by simp [longL]
      refine ⟨?_, some (.sh (bitsD r)), by rw [e2]; simp [List.map_append, List.map_map, Function.comp]⟩
      rw [e2, List.length_append] at hle
      simp only [List.length_map, List.length_range] at hle ⊢
      show _ ≤ 16777216
      omega
  · rintro _ ⟨a, rfl⟩
    simp only [wO_some, wO_none, wO_ite, wM_ok, wM_bad, wM_pure, wM_bind, wM_map, wM_iteB, wM_iteM, wM_nameB, wM_nameS, wM_nameV, wM_nameM, wM_asSh, wM_cons, wM_consO, wM_consT, wM_consB, wM_tup, wM_lst, wM_opS, wM_opN, wM_bl, wM_andT, wM_orT, wM_if, wM_andV, wM_orV, wM_tru, wM_neg, wM_part, wM_slice, wM_call, wM_isi, wM_op1, wM_bO, wM_chain, wM_sub, wM_subN, wM_has, wM_callF, wM_make, wM_newK, wM_newT, wM_get1, wM_get2, wM_field, wM_seq, wM_rngA1, wM_rngA2, wM_enumL, wM_enumT, wM_zipL, wM_zipT, wS_seq, wS_next, wS_brk, wS_cont, wS_bad, wS_if, wS_ret, wS_retN, wS_expr, wS_asg, wS_tg, wS_par, wS_app, wS_put, wS_fldX, wO_bName0, wO_bNameS, wO_bTup, wO_bNil, wO_bCons, wO_fillN, wO_fillS, wO_fillP, putBack_some, putBack_none, putBack_nil, slotSh_s, slotSh_sh, slotSh_ct, slotSh_rc, wipe_nil, wipe_cons, back_nil, back_cons, rest_s, rest_n, rest_sh, rest_ct, rest_rc, add_ii, sub_ii, cmp_ii, eq_ii, ne_ii, is_nn, is_tn, is_ln, is_in, is_bn, is_bb, isn_nn, isn_tn, isn_ln, isn_in, len_l, len_t, int_i, int_b, abs_i, tup_l, tup_t, list_l, list_t, f1_ap, f2_ap, tru_b, tru_t, tru_l, tru_n, item_lstS, item_lstO, item_tupS, wO_map, wO_bind, isi_int_i, isi_int_b, isi_int_n, isi_int_t, isi_int_l, isi_int_s, isi_bool_i, isi_bool_b, isi_bool_n, isi_tl_t, isi_tl_l, isi_tl_i, isi_tl_n, isi_t_t, isi_t_l, isi_l_t, isi_l_l, slice_l, slice_t, shO_sh, blO_bl, blD_bl, intO_i, seq_l, seq_t, seq_f, ownL_l, two_ap, isSh_s, made_ok, toD_sh, toD_lst, mod_ii, mul_ii, div_ii, add_ll, add_tt, List.getElem?_cons_zero, List.getElem?_cons_succ, List.set_cons_zero, List.set_cons_succ, Option.join_some, Option.join_none, List.map_cons, List.map_nil, if_true, if_false, Bool.false_eq_true, reduceIte, Bool.true_or, Bool.or_true, Bool.false_or, Bool.true_and, Bool.and_true, Bool.false_and, Bool.and_false, true_and, and_true, Bool.not_true, Bool.not_false, decide_eq_true_eq]
    exact q
theorem rows_w {n : Nat} (hn : n ≤ 20) (q : Q (.lst ((rowsL n).map bitsD)) [some (.sh (.int (n : Int)))]) : wM (sem_x_law_rows [.sh (.int (n : Int))]) Q X := by
  refine sem_w [some (.sh (.int (n : Int))), none, none] rfl rfl ?_
  unfold d_x_law_rows
  simp only [wO_some, wO_none, wO_ite, wM_ok, wM_bad, wM_pure, wM_bind, wM_map, wM_iteB, wM_iteM, wM_nameB, wM_nameS, wM_nameV, wM_nameM, wM_asSh, wM_cons, wM_consO, wM_consT, wM_consB, wM_tup, wM_lst, wM_opS, wM_opN, wM_bl, wM_andT, wM_orT, wM_if, wM_andV, wM_orV, wM_tru, wM_neg, wM_part, wM_slice, wM_call, wM_isi, wM_op1, wM_bO, wM_chain, wM_sub, wM_subN, wM_has, wM_callF, wM_make, wM_newK, wM_newT, wM_get1, wM_get2, wM_field, wM_seq, wM_rngA1, wM_rngA2, wM_enumL, wM_enumT, wM_zipL, wM_zipT, wS_seq, wS_next, wS_brk, wS_cont, wS_bad, wS_if, wS_ret, wS_retN, wS_expr, wS_asg, wS_tg, wS_par, wS_app, wS_put, wS_fldX, wO_bName0, wO_bNameS, wO_bTup, wO_bNil, wO_bCons, wO_fillN, wO_fillS, wO_fillP, putBack_some, putBack_none, putBack_nil, slotSh_s, slotSh_sh, slotSh_ct, slotSh_rc, wipe_nil, wipe_cons, back_nil, back_cons, rest_s, rest_n, rest_sh, rest_ct, rest_rc, add_ii, sub_ii, cmp_ii, eq_ii, ne_ii, is_nn, is_tn, is_ln, is_in, is_bn, is_bb, isn_nn, isn_tn, isn_ln, isn_in, len_l, len_t, int_i, int_b, abs_i, tup_l, tup_t, list_l, list_t, f1_ap, f2_ap, tru_b, tru_t, tru_l, tru_n, item_lstS, item_lstO, item_tupS, wO_map, wO_bind, isi_int_i, isi_int_b, isi_int_n, isi_int_t, isi_int_l, isi_int_s, isi_bool_i, isi_bool_b, isi_bool_n, isi_tl_t, isi_tl_l, isi_tl_i, isi_tl_n, isi_t_t, isi_t_l, isi_l_t, isi_l_l, slice_l, slice_t, shO_sh, blO_bl, blD_bl, intO_i, seq_l, seq_t, seq_f, ownL_l, two_ap, isSh_s, made_ok, toD_sh, toD_lst, mod_ii, mul_ii, div_ii, add_ll, add_tt, List.getElem?_cons_zero, List.getElem?_cons_succ, List.set_cons_zero, List.set_cons_succ, Option.join_some, Option.join_none, List.map_cons, List.map_nil, if_true, if_false, Bool.false_eq_true, reduceIte, Bool.true_or, Bool.or_true, Bool.false_or, Bool.true_and, Bool.and_true, Bool.false_and, Bool.and_false, true_and, and_true, Bool.not_true, Bool.not_false, decide_eq_true_eq]
  refine ⟨by show 0 ≤ lim; decide, by show 1 ≤ lim; decide, ?_⟩
  refine wS_forR 0 n (fun k ρ => ∃ a, ρ = [some (.sh (.int (n : Int))), some (.lst ((rowsL k).map bitsD)), a]) ?_ ?_ ?_
  · simp only [wO_some, wO_none, wO_ite, wM_ok, wM_bad, wM_pure, wM_bind, wM_map, wM_iteB, wM_iteM, wM_nameB, wM_nameS, wM_nameV, wM_nameM, wM_asSh, wM_cons, wM_consO, wM_consT, wM_consB, wM_tup, wM_lst, wM_opS, wM_opN, wM_bl, wM_andT, wM_orT, wM_if, wM_andV, wM_orV, wM_tru, wM_neg, wM_part, wM_slice, wM_call, wM_isi, wM_op1, wM_bO, wM_chain, wM_sub, wM_subN, wM_has, wM_callF, wM_make, wM_newK, wM_newT, wM_get1, wM_get2, wM_field, wM_seq, wM_rngA1, wM_rngA2, wM_enumL, wM_enumT, wM_zipL, wM_zipT, wS_seq, wS_next, wS_brk, wS_cont, wS_bad, wS_if, wS_ret, wS_retN, wS_expr, wS_asg, wS_tg, wS_par, wS_app, wS_put, wS_fldX, wO_bName0, wO_bNameS, wO_bTup, wO_bNil, wO_bCons, wO_fillN, wO_fillS, wO_fillP, putBack_some, putBack_none, putBack_nil, slotSh_s, slotSh_sh, slotSh_ct, slotSh_rc, wipe_nil, wipe_cons, back_nil, back_cons, rest_s, rest_n, rest_sh, rest_ct, rest_rc, add_ii, sub_ii, cmp_ii, eq_ii, ne_ii, is_nn, is_tn, is_ln, is_in, is_bn, is_bb, isn_nn, isn_tn, isn_ln, isn_in, len_l, len_t, int_i, int_b, abs_i, tup_l, tup_t, list_l, list_t, f1_ap, f2_ap, tru_b, tru_t, tru_l, tru_n, item_lstS, item_lstO, item_tupS, wO_map, wO_bind, isi_int_i, isi_int_b, isi_int_n, isi_int_t, isi_int_l, isi_int_s, isi_bool_i, isi_bool_b, isi_bool_n, isi_tl_t, isi_tl_l, isi_tl_i, isi_tl_n, isi_t_t, isi_t_l, isi_l_t, isi_l_l, slice_l, slice_t, shO_sh, blO_bl, blD_bl, intO_i, seq_l, seq_t, seq_f, ownL_l, two_ap, isSh_s, made_ok, toD_sh, toD_lst, mod_ii, mul_ii, div_ii, add_ll, add_tt, List.getElem?_cons_zero, List.getElem?_cons_succ, List.set_cons_zero, List.set_cons_succ, Option.join_some, Option.join_none, List.map_cons, List.map_nil, if_true, if_false, Bool.false_eq_true, reduceIte, Bool.true_or, Bool.or_true, Bool.false_or, Bool.true_and, Bool.and_true, Bool.false_and, Bool.and_false, true_and, and_true, Bool.not_true, Bool.not_false, decide_eq_true_eq]
    exact ⟨inR_nat (by omega), by rw [Int.toNat_natCast], none, rfl⟩
  · rintro k _ hk ⟨a, rfl⟩
    simp only [wO_some, wO_none, wO_ite, wM_ok, wM_bad, wM_pure, wM_bind, wM_map, wM_iteB, wM_iteM, wM_nameB, wM_nameS, wM_nameV, wM_nameM, wM_asSh, wM_cons, wM_consO, wM_consT, wM_consB, wM_tup, wM_lst, wM_opS, wM_opN, wM_bl, wM_andT, wM_orT, wM_if, wM_andV, wM_orV, wM_tru, wM_neg, wM_part, wM_slice, wM_call, wM_isi, wM_op1, wM_bO, wM_chain, wM_sub, wM_subN, wM_has, wM_callF, wM_make, wM_newK, wM_newT, wM_get1, wM_get2, wM_field, wM_seq, wM_rngA1, wM_rngA2, wM_enumL, wM_enumT, wM_zipL, wM_zipT, wS_seq, wS_next, wS_brk, wS_cont, wS_bad, wS_if, wS_ret, wS_retN, wS_expr, wS_asg, wS_tg, wS_par, wS_app, wS_put, wS_fldX, wO_bName0, wO_bNameS, wO_bTup, wO_bNil, wO_bCons, wO_fillN, wO_fillS, wO_fillP, putBack_some, putBack_none, putBack_nil, slotSh_s, slotSh_sh, slotSh_ct, slotSh_rc, wipe_nil, wipe_cons, back_nil, back_cons, rest_s, rest_n, rest_sh, rest_ct, rest_rc, add_ii, sub_ii, cmp_ii, eq_ii, ne_ii, is_nn, is_tn, is_ln, is_in, is_bn, is_bb, isn_nn, isn_tn, isn_ln, isn_in, len_l, len_t, int_i, int_b, abs_i, tup_l, tup_t, list_l, list_t, f1_ap, f2_ap, tru_b, tru_t, tru_l, tru_n, item_lstS, item_lstO, item_tupS, wO_map, wO_bind, isi_int_i, isi_int_b, isi_int_n, isi_int_t, isi_int_l, isi_int_s, isi_bool_i, isi_bool_b, isi_bool_n, isi_tl_t, isi_tl_l, isi_tl_i, isi_tl_n, isi_t_t, isi_t_l, isi_l_t, isi_l_l, slice_l, slice_t, shO_sh, blO_bl, blD_bl, intO_i, seq_l, seq_t, seq_f, ownL_l, two_ap, isSh_s, made_ok, toD_sh, toD_lst, mod_ii, mul_ii, div_ii, add_ll, add_tt, List.getElem?_cons_zero, List.getElem?_cons_succ, List.set_cons_zero, List.set_cons_succ, Option.join_some, Option.join_none, List.map_cons, List.map_nil, if_true, if_false, Bool.false_eq_true, reduceIte, Bool.true_or, Bool.or_true, Bool.false_or, Bool.true_and, Bool.and_true, Bool.false_and, Bool.and_false, true_and, and_true, Bool.not_true, Bool.not_false, decide_eq_true_eq]
    have e2 : (2 : Int) = ((2 : Nat) : Int) := rfl
    rw [e2]
    have hlen : (rowsL k).length * 2 ≤ 10000000 := by
      rw [rowsL_len]
      have hp : 2 ^ k ≤ 2 ^ 20 := Nat.pow_le_pow_right (by decide) (by omega)
      have : (2 : Nat) ^ 20 = 1048576 := by decide
      omega
    refine longer_w (m := 2) (by decide) hlen ?_ fun r hr => by have := (rowsL_mem.mp hr).1; omega
    simp only [wO_some, wO_none, wO_ite, wM_ok, wM_bad, wM_pure, wM_bind, wM_map, wM_iteB, wM_iteM, wM_nameB, wM_nameS, wM_nameV, wM_nameM, wM_asSh, wM_cons, wM_consO, wM_consT, wM_consB, wM_tup, wM_lst, wM_opS, wM_opN, wM_bl, wM_andT, wM_orT, wM_if, wM_andV, wM_orV, wM_tru, wM_neg, wM_part, wM_slice, wM_call, wM_isi, wM_op1, wM_bO, wM_chain, wM_sub, wM_subN, wM_has, wM_callF, wM_make, wM_newK, wM_newT, wM_get1, wM_get2, wM_field, wM_seq, wM_rngA1, wM_rngA2, wM_enumL, wM_enumT, wM_zipL, wM_zipT, wS_seq, wS_next, wS_brk, wS_cont, wS_bad, wS_if, wS_ret, wS_retN, wS_expr, wS_asg, wS_tg, wS_par, wS_app, wS_put, wS_fldX, wO_bName0, wO_bNameS, wO_bTup, wO_bNil, wO_bCons, wO_fillN, wO_fillS, wO_fillP, putBack_some, putBack_none, putBack_nil, slotSh_s, slotSh_sh, slotSh_ct, slotSh_rc, wipe_nil, wipe_cons, back_nil, back_cons, rest_s, rest_n, rest_sh, rest_ct, rest_rc, add_ii, sub_ii, cmp_ii, eq_ii, ne_ii, is_nn, is_tn, is_ln, is_in, is_bn, is_bb, isn_nn, isn_tn, isn_ln, isn_in, len_l, len_t, int_i, int_b, abs_i, tup_l, tup_t, list_l, list_t, f1_ap, f2_ap, tru_b, tru_t, tru_l, tru_n, item_lstS, item_lstO, item_tupS, wO_map, wO_bind, isi_int_i, isi_int_b, isi_int_n, isi_int_t, isi_int_l, isi_int_s, isi_bool_i, isi_bool_b, isi_bool_n, isi_tl_t, isi_tl_l, isi_tl_i, isi_tl_n, isi_t_t, isi_t_l, isi_l_t, isi_l_l, slice_l, slice_t, shO_sh, blO_bl, blD_bl, intO_i, seq_l, seq_t, seq_f, ownL_l, two_ap, isSh_s, made_ok, toD_sh, toD_lst, mod_ii, mul_ii, div_ii, add_ll, add_tt, List.getElem?_cons_zero, List.getElem?_cons_succ, List.set_cons_zero, List.set_cons_succ, Option.join_some, Option.join_none, List.map_cons, List.map_nil, if_true, if_false, Bool.false_eq_true, reduceIte, Bool.true_or, Bool.or_true, Bool.false_or, Bool.true_and, Bool.and_true, Bool.false_and, Bool.and_false, true_and, and_true, Bool.not_true, Bool.not_false, decide_eq_true_eq]
    exact ⟨_, rfl⟩
  · rintro _ ⟨a, rfl⟩
    simp only [wO_some, wO_none, wO_ite, wM_ok, wM_bad, wM_pure, wM_bind, wM_map, wM_iteB, wM_iteM, wM_nameB, wM_nameS, wM_nameV, wM_nameM, wM_asSh, wM_cons, wM_consO, wM_consT, wM_consB, wM_tup, wM_lst, wM_opS, wM_opN, wM_bl, wM_andT, wM_orT, wM_if, wM_andV, wM_orV, wM_tru, wM_neg, wM_part, wM_slice, wM_call, wM_isi, wM_op1, wM_bO, wM_chain, wM_sub, wM_subN, wM_has, wM_callF, wM_make, wM_newK, wM_newT, wM_get1, wM_get2, wM_field, wM_seq, wM_rngA1, wM_rngA2, wM_enumL, wM_enumT, wM_zipL, wM_zipT, wS_seq, wS_next, wS_brk, wS_cont, wS_bad, wS_if, wS_ret, wS_retN, wS_expr, wS_asg, wS_tg, wS_par, wS_app, wS_put, wS_fldX, wO_bName0, wO_bNameS, wO_bTup, wO_bNil, wO_bCons, wO_fillN, wO_fillS, wO_fillP, putBack_some, putBack_none, putBack_nil, slotSh_s, slotSh_sh, slotSh_ct, slotSh_rc, wipe_nil, wipe_cons, back_nil, back_cons, rest_s, rest_n, rest_sh, rest_ct, rest_rc, add_ii, sub_ii, cmp_ii, eq_ii, ne_ii, is_nn, is_tn, is_ln, is_in, is_bn, is_bb, isn_nn, isn_tn, isn_ln, isn_in, len_l, len_t, int_i, int_b, abs_i, tup_l, tup_t, list_l, list_t, f1_ap, f2_ap, tru_b, tru_t, tru_l, tru_n, item_lstS, item_lstO, item_tupS, wO_map, wO_bind, isi_int_i, isi_int_b, isi_int_n, isi_int_t, isi_int_l, isi_int_s, isi_bool_i, isi_bool_b, isi_bool_n, isi_tl_t, isi_tl_l, isi_tl_i, isi_tl_n, isi_t_t, isi_t_l, isi_l_t, isi_l_l, slice_l, slice_t, shO_sh, blO_bl, blD_bl, intO_i, seq_l, seq_t, seq_f, ownL_l, two_ap, isSh_s, made_ok, toD_sh, toD_lst, mod_ii, mul_ii, div_ii, add_ll, add_tt, List.getElem?_cons_zero, List.getElem?_cons_succ, List.set_cons_zero, List.set_cons_succ, Option.join_some, Option.join_none, List.map_cons, List.map_nil, if_true, if_false, Bool.false_eq_true, reduceIte, Bool.true_or, Bool.or_true, Bool.false_or, Bool.true_and, Bool.and_true, Bool.false_and, Bool.and_false, true_and, and_true, Bool.not_true, Bool.not_false, decide_eq_true_eq]
    exact q
end
end DL

end

section
set_option Elab.async false
set_option linter.all false
set_option maxRecDepth 100000
/-! EG, part A: graphs, as all their laws use them: the shared denotations and what they compute. -/
namespace DL
open PySem L2 RZ PyProof.Rows
/-! _law_drawn_gates(_law_pen_here, _law_leaves, _law_many): slots 0 _law_pen_here, 1 _law_leaves, 2 _law_many, 3 _law_gates, 4 _law_k, 5 _law_ahead -/
def d__law_drawn_gates : MS :=
  (sSeq (sAsg 3 (mLst (mPure [])))
  (sSeq (sFor (mBind (mCons (mNameV 2) (mPure [])) rngA1) (bName 4)
  (sSeq (sAsg 5 (mOpS (liftI mulI) (mMap O.sh (mPure (.int 2))) (mMap (fun o => ((none : Option Nat), o)) (mOpS addD (mOpS addD (mMap O.sh (mPure (.int 1))) (mNameB 1)) (mNameB 4)))))
  (sApp 3 (mTup (mCons (mMap O.toD (mCallF sem__law_draw [some 0, some 5] (mHas 0 (mHas 5 (mPure []))))) (mCons (mMap O.toD (mCallF sem__law_draw [some 0, some 5] (mHas 0 (mHas 5 (mPure []))))) (mPure [])))))))
  (sRet (mCall (f1 tupleD) (mConsB true (mNameB 3) (mPure []))))))
def sem__law_drawn_gates : Sem := semOf 6 3 [0, 1, 2] d__law_drawn_gates
/-! _law_flip(_law_literal): slots 0 _law_literal -/
def d__law_flip : MS :=
  (sRet (mOpS (liftI subI) (mOpN 0 addD (mMap (fun d => ((none : Option Nat), O.sh d)) (mPure (.int 1)))) (mMap (fun o => ((none : Option Nat), o)) (mOpS (liftI mulI) (mMap O.sh (mPure (.int 2))) (mMap (fun o => ((none : Option Nat), o)) (mOpS (liftI modI) (mCall (f1 intD) (mConsB true (mNameB 0) (mPure []))) (mMap (fun d => ((none : Option Nat), O.sh d)) (mPure (.int 2)))))))))
def sem__law_flip : Sem := semOf 1 1 [0] d__law_flip
/-! opposite(literal): slots 0 literal -/
def d_opposite : MS :=
  (sRet (mIf (mBl (mOpS eqO (mOpN 0 (liftI modI) (mMap (fun d => ((none : Option Nat), O.sh d)) (mPure (.int 2)))) (mMap (fun d => ((none : Option Nat), O.sh d)) (mPure (.int 0))))) (mOpN 0 addD (mMap (fun d => ((none : Option Nat), O.sh d)) (mPure (.int 1)))) (mOpN 0 (liftI subI) (mMap (fun d => ((none : Option Nat), O.sh d)) (mPure (.int 1))))))
def sem_opposite : Sem := semOf 1 1 [0] d_opposite
/-! is_count(value): slots 0 value -/
def d_is_count : MS :=
  (sRet (mMap O.sh (mAndV (mIsi ["int"] (mNameB 0)) (mAndV (mMap (fun b => D.bl (!b)) (mTru (mMap (fun d => ((none : Option Nat), O.sh d)) (mIsi ["bool"] (mNameB 0))))) (mMap O.toD (mOpN 0 (liftB fun i j => decide (j ≤ i)) (mMap (fun d => ((none : Option Nat), O.sh d)) (mPure (.int 0)))))))))
def sem_is_count : Sem := semOf 1 1 [0] d_is_count
/-! is_literal(value, nodes): slots 0 value, 1 nodes -/
def d_is_literal : MS :=
  (sRet (mMap O.sh (mAndV (mMap O.toD (mCallF sem_is_count [some 0] (mHas 0 (mPure [])))) (mMap O.toD (mOpN 0 (liftB fun i j => decide (i < j)) (mMap (fun o => ((none : Option Nat), o)) (mOpS (liftI mulI) (mMap O.sh (mPure (.int 2))) (mNameB 1))))))))
def sem_is_literal : Sem := semOf 2 2 [0, 1] d_is_literal
/-! are_gates(leaves, gates): slots 0 leaves, 1 gates, 2 k, 3 gate, 4 literal -/
def d_are_gates : MS :=
  (sSeq (sIf (mMap (fun b => !b) (mTru (mMap (fun d => ((none : Option Nat), O.sh d)) (mIsi ["tuple", "list"] (mNameB 1))))) (sRet (mMap O.sh (mPure (.bl false)))) sNext)
  (sSeq (sFor (mBind (mCons (mNameV 1) (mPure [])) enumA) (bTup [(bName 2), (bName 3)])
  (sSeq (sIf (mOrT (mMap (fun b => !b) (mTru (mMap (fun d => ((none : Option Nat), O.sh d)) (mIsi ["tuple", "list"] (mNameB 3))))) (mBl (mOpS neO (mCall (f1 lenD) (mConsB true (mNameB 3) (mPure []))) (mMap (fun d => ((none : Option Nat), O.sh d)) (mPure (.int 2)))))) (sRet (mMap O.sh (mPure (.bl false)))) sNext)
  (sIf (mMap (fun b => !b) (mTru (mMap (fun o => ((none : Option Nat), o)) (mCall (f1 allD) (mConsB true (mMap (fun o => ((none : Option Nat), o)) (mLc [4] (mBind (mNameV 3) seqD) (bName 4) (mPure true) (mMap O.toD (mCallF sem_is_literal [some 4, none] (mHas 4 (mConsO (mOpS addD (mOpS addD (mMap O.sh (mPure (.int 1))) (mNameB 0)) (mNameB 2)) (mPure []))))))) (mPure [])))))) (sRet (mMap O.sh (mPure (.bl false)))) sNext)))
  (sRet (mMap O.sh (mPure (.bl true))))))
def sem_are_gates : Sem := semOf 5 2 [0, 1] d_are_gates
/-! Graph.__init__(self, leaves, gates): slots 0 self, 1 leaves, 2 gates, 3 gate -/
def d_Graph___init__ : MS :=
  (sSeq (sIf (mMap (fun b => !b) (mTru (mMap (fun o => ((none : Option Nat), o)) (mCallF sem_is_count [some 1] (mHas 1 (mPure [])))))) sBad sNext)
  (sSeq (sIf (mMap (fun b => !b) (mTru (mMap (fun o => ((none : Option Nat), o)) (mCallF sem_are_gates [some 1, some 2] (mHas 1 (mHas 2 (mPure []))))))) sBad sNext)
  (sSeq (sFldX tbl 0 "leaves" (mMap O.sh (mNameV 1)))
  (sFldX tbl 0 "gates" (mCall (f1 tupleD) (mConsB true (mMap (fun o => ((none : Option Nat), o)) (mLc [3] (mBind (mNameV 2) seqD) (bName 3) (mPure true) (mMap O.toD (mCall (f1 tupleD) (mConsB true (mNameB 3) (mPure [])))))) (mPure [])))))))
def sem_Graph___init__ : Sem := semOf 4 3 [0, 1, 2] d_Graph___init__
/-! _law_bit(_law_found, _law_literal): slots 0 _law_found, 1 _law_literal -/
def d__law_bit : MS :=
  (sRet (mCall (f1 absD) (mConsB true (mMap (fun o => ((none : Option Nat), o)) (mOpS (liftI subI) (mMap O.sh (mBind (mSubN 0 (mMap O.toD (mOpN 1 (liftI divI) (mMap (fun d => ((none : Option Nat), O.sh d)) (mPure (.int 2)))))) asSh)) (mMap (fun o => ((none : Option Nat), o)) (mOpS (liftI modI) (mCall (f1 intD) (mConsB true (mNameB 1) (mPure []))) (mMap (fun d => ((none : Option Nat), O.sh d)) (mPure (.int 2))))))) (mPure []))))
def sem__law_bit : Sem := semOf 2 2 [0, 1] d__law_bit
/-! _law_values(_law_leaves, _law_gates, _law_bits): slots 0 _law_leaves, 1 _law_gates, 2 _law_bits, 3 _law_found, 4 _law_one, 5 _law_two -/
def d__law_values : MS :=
  (sSeq (sAsg 3 (mOpS addD (mLst (mCons (mPure (.int 0)) (mPure []))) (mMap (fun o => ((none : Option Nat), o)) (mCall (f1 listD) (mConsB true (mNameB 2) (mPure []))))))
  (sSeq (sFor (mBind (mNameV 1) seqD) (bTup [(bName 4), (bName 5)])
  (sApp 3 (mMap O.toD (mOpS (liftI mulI) (mCallF sem__law_bit [some 3, some 4] (mHas 3 (mHas 4 (mPure [])))) (mMap (fun o => ((none : Option Nat), o)) (mCallF sem__law_bit [some 3, some 5] (mHas 3 (mHas 5 (mPure [])))))))))
  (sRet (mNameM 3))))
def sem__law_values : Sem := semOf 6 3 [0, 1, 2] d__law_values
/-! _law_literals(_law_pen_here, _law_nodes, _law_many): slots 0 _law_pen_here, 1 _law_nodes, 2 _law_many, 3 _law_k -/
def d__law_literals : MS :=
  (sRet (mCall (f1 tupleD) (mConsB true (mMap (fun o => ((none : Option Nat), o)) (mLc [3] (mBind (mCons (mNameV 2) (mPure [])) rngA1) (bName 3) (mPure true) (mMap O.toD (mCallF sem__law_draw [some 0, none] (mHas 0 (mConsO (mOpS (liftI mulI) (mMap O.sh (mPure (.int 2))) (mNameB 1)) (mPure []))))))) (mPure []))))
def sem__law_literals : Sem := semOf 4 3 [0, 1, 2] d__law_literals
section
variable {Q : O → DL.Env → Prop} {X : D → DL.Env → Prop} {ρ : DL.Env}
/-! ### literals -/
/-- the other literal of a node -/
def flp (l : Nat) : Nat := if l % 2 = 0 then l + 1 else l - 1
theorem flip_w {l : Nat} (h : l < 1000000) (q : Q (.sh (natD (flp l))) [some (.sh (natD l))]) : wM (sem__law_flip [.sh (natD l)]) Q X := by
  refine sem_w [some (.sh (natD l))] rfl rfl ?_
  unfold d__law_flip
  simp only [natD, wO_some, wO_none, wO_ite, wM_ok, wM_bad, wM_pure, wM_bind, wM_map, wM_iteB, wM_iteM, wM_nameB, wM_nameS, wM_nameV, wM_nameM, wM_asSh, wM_cons, wM_consO, wM_consT, wM_consB, wM_tup, wM_lst, wM_opS, wM_opN, wM_bl, wM_andT, wM_orT, wM_if, wM_andV, wM_orV, wM_tru, wM_neg, wM_part, wM_slice, wM_call, wM_isi, wM_op1, wM_bO, wM_chain, wM_sub, wM_subN, wM_has, wM_callF, wM_make, wM_newK, wM_newT, wM_get1, wM_get2, wM_field, wM_seq, wM_rngA1, wM_rngA2, wM_enumL, wM_enumT, wM_zipL, wM_zipT, wS_seq, wS_next, wS_brk, wS_cont, wS_bad, wS_if, wS_ret, wS_retN, wS_expr, wS_asg, wS_tg, wS_par, wS_app, wS_put, wS_fldX, wO_bName0, wO_bNameS, wO_bTup, wO_bNil, wO_bCons, wO_fillN, wO_fillS, wO_fillP, putBack_some, putBack_none, putBack_nil, slotSh_s, slotSh_sh, slotSh_ct, slotSh_rc, wipe_nil, wipe_cons, back_nil, back_cons, rest_s, rest_n, rest_sh, rest_ct, rest_rc, add_ii, sub_ii, cmp_ii, eq_ii, ne_ii, is_nn, is_tn, is_ln, is_in, is_bn, is_bb, isn_nn, isn_tn, isn_ln, isn_in, len_l, len_t, int_i, int_b, abs_i, tup_l, tup_t, list_l, list_t, f1_ap, f2_ap, tru_b, tru_t, tru_l, tru_n, item_lstS, item_lstO, item_tupS, wO_map, wO_bind, isi_int_i, isi_int_b, isi_int_n, isi_int_t, isi_int_l, isi_int_s, isi_bool_i, isi_bool_b, isi_bool_n, isi_tl_t, isi_tl_l, isi_tl_i, isi_tl_n, isi_t_t, isi_t_l, isi_l_t, isi_l_l, slice_l, slice_t, shO_sh, blO_bl, blD_bl, intO_i, seq_l, seq_t, seq_f, ownL_l, two_ap, isSh_s, made_ok, toD_sh, toD_lst, mod_ii, mul_ii, div_ii, add_ll, add_tt, List.getElem?_cons_zero, List.getElem?_cons_succ, List.set_cons_zero, List.set_cons_succ, Option.join_some, Option.join_none, List.map_cons, List.map_nil, if_true, if_false, Bool.false_eq_true, reduceIte, Bool.true_or, Bool.or_true, Bool.false_or, Bool.true_and, Bool.and_true, Bool.false_and, Bool.and_false, true_and, and_true, Bool.not_true, Bool.not_false, decide_eq_true_eq]
  refine ⟨by decide, ⟨small512 (by omega) (by omega), small512 (by omega) (by omega)⟩, ?_⟩
  have e : (l : Int) + 1 - 2 * ((l : Int) % 2) = ((flp l : Nat) : Int) := by unfold flp; split <;> omega
  rw [e]
  exact q
theorem opposite_w {l : Nat} (q : Q (.sh (natD (flp l))) [some (.sh (natD l))]) : wM (sem_opposite [.sh (natD l)]) Q X := by
  refine sem_w [some (.sh (natD l))] rfl rfl ?_
  unfold d_opposite
  simp only [natD, wO_some, wO_none, wO_ite, wM_ok, wM_bad, wM_pure, wM_bind, wM_map, wM_iteB, wM_iteM, wM_nameB, wM_nameS, wM_nameV, wM_nameM, wM_asSh, wM_cons, wM_consO, wM_consT, wM_consB, wM_tup, wM_lst, wM_opS, wM_opN, wM_bl, wM_andT, wM_orT, wM_if, wM_andV, wM_orV, wM_tru, wM_neg, wM_part, wM_slice, wM_call, wM_isi, wM_op1, wM_bO, wM_chain, wM_sub, wM_subN, wM_has, wM_callF, wM_make, wM_newK, wM_newT, wM_get1, wM_get2, wM_field, wM_seq, wM_rngA1, wM_rngA2, wM_enumL, wM_enumT, wM_zipL, wM_zipT, wS_seq, wS_next, wS_brk, wS_cont, wS_bad, wS_if, wS_ret, wS_retN, wS_expr, wS_asg, wS_tg, wS_par, wS_app, wS_put, wS_fldX, wO_bName0, wO_bNameS, wO_bTup, wO_bNil, wO_bCons, wO_fillN, wO_fillS, wO_fillP, putBack_some, putBack_none, putBack_nil, slotSh_s, slotSh_sh, slotSh_ct, slotSh_rc, wipe_nil, wipe_cons, back_nil, back_cons, rest_s, rest_n, rest_sh, rest_ct, rest_rc, add_ii, sub_ii, cmp_ii, eq_ii, ne_ii, is_nn, is_tn, is_ln, is_in, is_bn, is_bb, isn_nn, isn_tn, isn_ln, isn_in, len_l, len_t, int_i, int_b, abs_i, tup_l, tup_t, list_l, list_t, f1_ap, f2_ap, tru_b, tru_t, tru_l, tru_n, item_lstS, item_lstO, item_tupS, wO_map, wO_bind, isi_int_i, isi_int_b, isi_int_n, isi_int_t, isi_int_l, isi_int_s, isi_bool_i, isi_bool_b, isi_bool_n, isi_tl_t, isi_tl_l, isi_tl_i, isi_tl_n, isi_t_t, isi_t_l, isi_l_t, isi_l_l, slice_l, slice_t, shO_sh, blO_bl, blD_bl, intO_i, seq_l, seq_t, seq_f, ownL_l, two_ap, isSh_s, made_ok, toD_sh, toD_lst, mod_ii, mul_ii, div_ii, add_ll, add_tt, List.getElem?_cons_zero, List.getElem?_cons_succ, List.set_cons_zero, List.set_cons_succ, Option.join_some, Option.join_none, List.map_cons, List.map_nil, if_true, if_false, Bool.false_eq_true, reduceIte, Bool.true_or, Bool.or_true, Bool.false_or, Bool.true_and, Bool.and_true, Bool.false_and, Bool.and_false, true_and, and_true, Bool.not_true, Bool.not_false, decide_eq_true_eq]
  refine ⟨by decide, ?_⟩
  split <;> rename_i h
  · have h : (l : Int) % 2 = 0 := by simpa using h
    have e : (l : Int) + 1 = ((flp l : Nat) : Int) := by unfold flp; split <;> omega
    rw [e]; exact q
  · have h : ¬ (l : Int) % 2 = 0 := by simpa using h
    have e : (l : Int) - 1 = ((flp l : Nat) : Int) := by unfold flp; split <;> omega
    rw [e]; exact q
theorem count_w {l : Int} (h0 : 0 ≤ l) (q : Q (.sh (.bl true)) [some (.sh (.int l))]) : wM (sem_is_count [.sh (.int l)]) Q X := by
  refine sem_w [some (.sh (.int l))] rfl rfl ?_
  unfold d_is_count
  simp only [wO_some, wO_none, wO_ite, wM_ok, wM_bad, wM_pure, wM_bind, wM_map, wM_iteB, wM_iteM, wM_nameB, wM_nameS, wM_nameV, wM_nameM, wM_asSh, wM_cons, wM_consO, wM_consT, wM_consB, wM_tup, wM_lst, wM_opS, wM_opN, wM_bl, wM_andT, wM_orT, wM_if, wM_andV, wM_orV, wM_tru, wM_neg, wM_part, wM_slice, wM_call, wM_isi, wM_op1, wM_bO, wM_chain, wM_sub, wM_subN, wM_has, wM_callF, wM_make, wM_newK, wM_newT, wM_get1, wM_get2, wM_field, wM_seq, wM_rngA1, wM_rngA2, wM_enumL, wM_enumT, wM_zipL, wM_zipT, wS_seq, wS_next, wS_brk, wS_cont, wS_bad, wS_if, wS_ret, wS_retN, wS_expr, wS_asg, wS_tg, wS_par, wS_app, wS_put, wS_fldX, wO_bName0, wO_bNameS, wO_bTup, wO_bNil, wO_bCons, wO_fillN, wO_fillS, wO_fillP, putBack_some, putBack_none, putBack_nil, slotSh_s, slotSh_sh, slotSh_ct, slotSh_rc, wipe_nil, wipe_cons, back_nil, back_cons, rest_s, rest_n, rest_sh, rest_ct, rest_rc, add_ii, sub_ii, cmp_ii, eq_ii, ne_ii, is_nn, is_tn, is_ln, is_in, is_bn, is_bb, isn_nn, isn_tn, isn_ln, isn_in, len_l, len_t, int_i, int_b, abs_i, tup_l, tup_t, list_l, list_t, f1_ap, f2_ap, tru_b, tru_t, tru_l, tru_n, item_lstS, item_lstO, item_tupS, wO_map, wO_bind, isi_int_i, isi_int_b, isi_int_n, isi_int_t, isi_int_l, isi_int_s, isi_bool_i, isi_bool_b, isi_bool_n, isi_tl_t, isi_tl_l, isi_tl_i, isi_tl_n, isi_t_t, isi_t_l, isi_l_t, isi_l_l, slice_l, slice_t, shO_sh, blO_bl, blD_bl, intO_i, seq_l, seq_t, seq_f, ownL_l, two_ap, isSh_s, made_ok, toD_sh, toD_lst, mod_ii, mul_ii, div_ii, add_ll, add_tt, List.getElem?_cons_zero, List.getElem?_cons_succ, List.set_cons_zero, List.set_cons_succ, Option.join_some, Option.join_none, List.map_cons, List.map_nil, if_true, if_false, Bool.false_eq_true, reduceIte, Bool.true_or, Bool.or_true, Bool.false_or, Bool.true_and, Bool.and_true, Bool.false_and, Bool.and_false, true_and, and_true, Bool.not_true, Bool.not_false, decide_eq_true_eq, h0, decide_true]
  exact q
theorem literal_w {l n : Int} (h0 : 0 ≤ l) (h : l < 2 * n) (hn : n < 1000000) (q : Q (.sh (.bl true)) [some (.sh (.int l)), some (.sh (.int n))]) : wM (sem_is_literal [.sh (.int l), .sh (.int n)]) Q X := by
  refine sem_w [some (.sh (.int l)), some (.sh (.int n))] rfl rfl ?_
  unfold d_is_literal
  simp only [wO_some, wO_none, wO_ite, wM_ok, wM_bad, wM_pure, wM_bind, wM_map, wM_iteB, wM_iteM, wM_nameB, wM_nameS, wM_nameV, wM_nameM, wM_asSh, wM_cons, wM_consO, wM_consT, wM_consB, wM_tup, wM_lst, wM_opS, wM_opN, wM_bl, wM_andT, wM_orT, wM_if, wM_andV, wM_orV, wM_tru, wM_neg, wM_part, wM_slice, wM_call, wM_isi, wM_op1, wM_bO, wM_chain, wM_sub, wM_subN, wM_has, wM_callF, wM_make, wM_newK, wM_newT, wM_get1, wM_get2, wM_field, wM_seq, wM_rngA1, wM_rngA2, wM_enumL, wM_enumT, wM_zipL, wM_zipT, wS_seq, wS_next, wS_brk, wS_cont, wS_bad, wS_if, wS_ret, wS_retN, wS_expr, wS_asg, wS_tg, wS_par, wS_app, wS_put, wS_fldX, wO_bName0, wO_bNameS, wO_bTup, wO_bNil, wO_bCons, wO_fillN, wO_fillS, wO_fillP, putBack_some, putBack_none, putBack_nil, slotSh_s, slotSh_sh, slotSh_ct, slotSh_rc, wipe_nil, wipe_cons, back_nil, back_cons, rest_s, rest_n, rest_sh, rest_ct, rest_rc, add_ii, sub_ii, cmp_ii, eq_ii, ne_ii, is_nn, is_tn, is_ln, is_in, is_bn, is_bb, isn_nn, isn_tn, isn_ln, isn_in, len_l, len_t, int_i, int_b, abs_i, tup_l, tup_t, list_l, list_t, f1_ap, f2_ap, tru_b, tru_t, tru_l, tru_n, item_lstS, item_lstO, item_tupS, wO_map, wO_bind, isi_int_i, isi_int_b, isi_int_n, isi_int_t, isi_int_l, isi_int_s, isi_bool_i, isi_bool_b, isi_bool_n, isi_tl_t, isi_tl_l, isi_tl_i, isi_tl_n, isi_t_t, isi_t_l, isi_l_t, isi_l_l, slice_l, slice_t, shO_sh, blO_bl, blD_bl, intO_i, seq_l, seq_t, seq_f, ownL_l, two_ap, isSh_s, made_ok, toD_sh, toD_lst, mod_ii, mul_ii, div_ii, add_ll, add_tt, List.getElem?_cons_zero, List.getElem?_cons_succ, List.set_cons_zero, List.set_cons_succ, Option.join_some, Option.join_none, List.map_cons, List.map_nil, if_true, if_false, Bool.false_eq_true, reduceIte, Bool.true_or, Bool.or_true, Bool.false_or, Bool.true_and, Bool.and_true, Bool.false_and, Bool.and_false, true_and, and_true, Bool.not_true, Bool.not_false, decide_eq_true_eq]
  refine count_w h0 ?_
  simp only [wO_some, wO_none, wO_ite, wM_ok, wM_bad, wM_pure, wM_bind, wM_map, wM_iteB, wM_iteM, wM_nameB, wM_nameS, wM_nameV, wM_nameM, wM_asSh, wM_cons, wM_consO, wM_consT, wM_consB, wM_tup, wM_lst, wM_opS, wM_opN, wM_bl, wM_andT, wM_orT, wM_if, wM_andV, wM_orV, wM_tru, wM_neg, wM_part, wM_slice, wM_call, wM_isi, wM_op1, wM_bO, wM_chain, wM_sub, wM_subN, wM_has, wM_callF, wM_make, wM_newK, wM_newT, wM_get1, wM_get2, wM_field, wM_seq, wM_rngA1, wM_rngA2, wM_enumL, wM_enumT, wM_zipL, wM_zipT, wS_seq, wS_next, wS_brk, wS_cont, wS_bad, wS_if, wS_ret, wS_retN, wS_expr, wS_asg, wS_tg, wS_par, wS_app, wS_put, wS_fldX, wO_bName0, wO_bNameS, wO_bTup, wO_bNil, wO_bCons, wO_fillN, wO_fillS, wO_fillP, putBack_some, putBack_none, putBack_nil, slotSh_s, slotSh_sh, slotSh_ct, slotSh_rc, wipe_nil, wipe_cons, back_nil, back_cons, rest_s, rest_n, rest_sh, rest_ct, rest_rc, add_ii, sub_ii, cmp_ii, eq_ii, ne_ii, is_nn, is_tn, is_ln, is_in, is_bn, is_bb, isn_nn, isn_tn, isn_ln, isn_in, len_l, len_t, int_i, int_b, abs_i, tup_l, tup_t, list_l, list_t, f1_ap, f2_ap, tru_b, tru_t, tru_l, tru_n, item_lstS, item_lstO, item_tupS, wO_map, wO_bind, isi_int_i, isi_int_b, isi_int_n, isi_int_t, isi_int_l, isi_int_s, isi_bool_i, isi_bool_b, isi_bool_n, isi_tl_t, isi_tl_l, isi_tl_i, isi_tl_n, isi_t_t, isi_t_l, isi_l_t, isi_l_l, slice_l, slice_t, shO_sh, blO_bl, blD_bl, intO_i, seq_l, seq_t, seq_f, ownL_l, two_ap, isSh_s, made_ok, toD_sh, toD_lst, mod_ii, mul_ii, div_ii, add_ll, add_tt, List.getElem?_cons_zero, List.getElem?_cons_succ, List.set_cons_zero, List.set_cons_succ, Option.join_some, Option.join_none, List.map_cons, List.map_nil, if_true, if_false, Bool.false_eq_true, reduceIte, Bool.true_or, Bool.or_true, Bool.false_or, Bool.true_and, Bool.and_true, Bool.false_and, Bool.and_false, true_and, and_true, Bool.not_true, Bool.not_false, decide_eq_true_eq]
  refine ⟨⟨small512 (by omega) (by omega), small512 (by omega) (by omega)⟩, ?_⟩
  rw [decide_eq_true h]
  exact q
/-! ### gates and graphs -/
def gD (g : Nat × Nat) : D := .tup [natD g.1, natD g.2]
/-- gates whose literals stand ahead -/
def GOk (leaves : Nat) (gs : List (Nat × Nat)) : Prop := ∀ pre g post, gs = pre ++ g :: post → g.1 < 2 * (1 + leaves + pre.length) ∧ g.2 < 2 * (1 + leaves + pre.length)
theorem GOk.snoc {leaves : Nat} {gs : List (Nat × Nat)} {g : Nat × Nat} (h : GOk leaves gs) (h1 : g.1 < 2 * (1 + leaves + gs.length)) (h2 : g.2 < 2 * (1 + leaves + gs.length)) : GOk leaves (gs ++ [g]) := fun pre x post e => by
  rcases List.eq_nil_or_concat post with rfl | ⟨p2, y, rfl⟩
  · obtain ⟨rfl, z⟩ := List.append_inj' e rfl
    obtain rfl := (List.cons.inj z).1
    exact ⟨h1, h2⟩
  · have e2 : gs ++ [g] = (pre ++ x :: p2) ++ [y] := by rw [e]; simp
    obtain ⟨rfl, -⟩ := List.append_inj' e2 rfl
    exact h pre x p2 rfl
theorem GOk.pre {leaves : Nat} {gs hs : List (Nat × Nat)} (h : GOk leaves (gs ++ hs)) : GOk leaves gs := fun pre x post e => h pre x (post ++ hs) (by rw [e]; simp)
theorem are_gates_w {leaves : Nat} {gs : List (Nat × Nat)} (hg : GOk leaves gs) (hl : leaves ≤ 1000) (hn : gs.length ≤ 1000) (q : Q (.sh (.bl true)) [some (.sh (natD leaves)), some (.sh (.tup (gs.map gD)))]) :
    wM (sem_are_gates [.sh (natD leaves), .sh (.tup (gs.map gD))]) Q X := by
  refine sem_w [some (.sh (natD leaves)), some (.sh (.tup (gs.map gD))), none, none, none] rfl rfl ?_
  unfold d_are_gates
  simp only [wO_some, wO_none, wO_ite, wM_ok, wM_bad, wM_pure, wM_bind, wM_map, wM_iteB, wM_iteM, wM_nameB, wM_nameS, wM_nameV, wM_nameM, wM_asSh, wM_cons, wM_consO, wM_consT, wM_consB, wM_tup, wM_lst, wM_opS, wM_opN, wM_bl, wM_andT, wM_orT, wM_if, wM_andV, wM_orV, wM_tru, wM_neg, wM_part, wM_slice, wM_call, wM_isi, wM_op1, wM_bO, wM_chain, wM_sub, wM_subN, wM_has, wM_callF, wM_make, wM_newK, wM_newT, wM_get1, wM_get2, wM_field, wM_seq, wM_rngA1, wM_rngA2, wM_enumL, wM_enumT, wM_zipL, wM_zipT, wS_seq, wS_next, wS_brk, wS_cont, wS_bad, wS_if, wS_ret, wS_retN, wS_expr, wS_asg, wS_tg, wS_par, wS_app, wS_put, wS_fldX, wO_bName0, wO_bNameS, wO_bTup, wO_bNil, wO_bCons, wO_fillN, wO_fillS, wO_fillP, putBack_some, putBack_none, putBack_nil, slotSh_s, slotSh_sh, slotSh_ct, slotSh_rc, wipe_nil, wipe_cons, back_nil, back_cons, rest_s, rest_n, rest_sh, rest_ct, rest_rc, add_ii, sub_ii, cmp_ii, eq_ii, ne_ii, is_nn, is_tn, is_ln, is_in, is_bn, is_bb, isn_nn, isn_tn, isn_ln, isn_in, len_l, len_t, int_i, int_b, abs_i, tup_l, tup_t, list_l, list_t, f1_ap, f2_ap, tru_b, tru_t, tru_l, tru_n, item_lstS, item_lstO, item_tupS, wO_map, wO_bind, isi_int_i, isi_int_b, isi_int_n, isi_int_t, isi_int_l, isi_int_s, isi_bool_i, isi_bool_b, isi_bool_n, isi_tl_t, isi_tl_l, isi_tl_i, isi_tl_n, isi_t_t, isi_t_l, isi_l_t, isi_l_l, slice_l, slice_t, shO_sh, blO_bl, blD_bl, intO_i, seq_l, seq_t, seq_f, ownL_l, two_ap, isSh_s, made_ok, toD_sh, toD_lst, mod_ii, mul_ii, div_ii, add_ll, add_tt, List.getElem?_cons_zero, List.getElem?_cons_succ, List.set_cons_zero, List.set_cons_succ, Option.join_some, Option.join_none, List.map_cons, List.map_nil, if_true, if_false, Bool.false_eq_true, reduceIte, Bool.true_or, Bool.or_true, Bool.false_or, Bool.true_and, Bool.and_true, Bool.false_and, Bool.and_false, true_and, and_true, Bool.not_true, Bool.not_false, decide_eq_true_eq]
  refine wS_forE gD gs (fun _ ρ => ∃ a b, ρ = [some (.sh (natD leaves)), some (.sh (.tup (gs.map gD))), a, b, none]) ?_ ?_ ?_
  · simp only [wO_some, wO_none, wO_ite, wM_ok, wM_bad, wM_pure, wM_bind, wM_map, wM_iteB, wM_iteM, wM_nameB, wM_nameS, wM_nameV, wM_nameM, wM_asSh, wM_cons, wM_consO, wM_consT, wM_consB, wM_tup, wM_lst, wM_opS, wM_opN, wM_bl, wM_andT, wM_orT, wM_if, wM_andV, wM_orV, wM_tru, wM_neg, wM_part, wM_slice, wM_call, wM_isi, wM_op1, wM_bO, wM_chain, wM_sub, wM_subN, wM_has, wM_callF, wM_make, wM_newK, wM_newT, wM_get1, wM_get2, wM_field, wM_seq, wM_rngA1, wM_rngA2, wM_enumL, wM_enumT, wM_zipL, wM_zipT, wS_seq, wS_next, wS_brk, wS_cont, wS_bad, wS_if, wS_ret, wS_retN, wS_expr, wS_asg, wS_tg, wS_par, wS_app, wS_put, wS_fldX, wO_bName0, wO_bNameS, wO_bTup, wO_bNil, wO_bCons, wO_fillN, wO_fillS, wO_fillP, putBack_some, putBack_none, putBack_nil, slotSh_s, slotSh_sh, slotSh_ct, slotSh_rc, wipe_nil, wipe_cons, back_nil, back_cons, rest_s, rest_n, rest_sh, rest_ct, rest_rc, add_ii, sub_ii, cmp_ii, eq_ii, ne_ii, is_nn, is_tn, is_ln, is_in, is_bn, is_bb, isn_nn, isn_tn, isn_ln, isn_in, len_l, len_t, int_i, int_b, abs_i, tup_l, tup_t, list_l, list_t, f1_ap, f2_ap, tru_b, tru_t, tru_l, tru_n, item_lstS, item_lstO, item_tupS, wO_map, wO_bind, isi_int_i, isi_int_b, isi_int_n, isi_int_t, isi_int_l, isi_int_s, isi_bool_i, isi_bool_b, isi_bool_n, isi_tl_t, isi_tl_l, isi_tl_i, isi_tl_n, isi_t_t, isi_t_l, isi_l_t, isi_l_l, slice_l, slice_t, shO_sh, blO_bl, blD_bl, intO_i, seq_l, seq_t, seq_f, ownL_l, two_ap, isSh_s, made_ok, toD_sh, toD_lst, mod_ii, mul_ii, div_ii, add_ll, add_tt, List.getElem?_cons_zero, List.getElem?_cons_succ, List.set_cons_zero, List.set_cons_succ, Option.join_some, Option.join_none, List.map_cons, List.map_nil, if_true, if_false, Bool.false_eq_true, reduceIte, Bool.true_or, Bool.or_true, Bool.false_or, Bool.true_and, Bool.and_true, Bool.false_and, Bool.and_false, true_and, and_true, Bool.not_true, Bool.not_false, decide_eq_true_eq]
    exact ⟨_, _, rfl⟩
  · rintro pre g post _ e ⟨a, b, rfl⟩
    have hk := hg pre g post e
    have hp : pre.length < gs.length := by rw [e]; simp
    simp only [wO_some, wO_none, wO_ite, wM_ok, wM_bad, wM_pure, wM_bind, wM_map, wM_iteB, wM_iteM, wM_nameB, wM_nameS, wM_nameV, wM_nameM, wM_asSh, wM_cons, wM_consO, wM_consT, wM_consB, wM_tup, wM_lst, wM_opS, wM_opN, wM_bl, wM_andT, wM_orT, wM_if, wM_andV, wM_orV, wM_tru, wM_neg, wM_part, wM_slice, wM_call, wM_isi, wM_op1, wM_bO, wM_chain, wM_sub, wM_subN, wM_has, wM_callF, wM_make, wM_newK, wM_newT, wM_get1, wM_get2, wM_field, wM_seq, wM_rngA1, wM_rngA2, wM_enumL, wM_enumT, wM_zipL, wM_zipT, wS_seq, wS_next, wS_brk, wS_cont, wS_bad, wS_if, wS_ret, wS_retN, wS_expr, wS_asg, wS_tg, wS_par, wS_app, wS_put, wS_fldX, wO_bName0, wO_bNameS, wO_bTup, wO_bNil, wO_bCons, wO_fillN, wO_fillS, wO_fillP, putBack_some, putBack_none, putBack_nil, slotSh_s, slotSh_sh, slotSh_ct, slotSh_rc, wipe_nil, wipe_cons, back_nil, back_cons, rest_s, rest_n, rest_sh, rest_ct, rest_rc, add_ii, sub_ii, cmp_ii, eq_ii, ne_ii, is_nn, is_tn, is_ln, is_in, is_bn, is_bb, isn_nn, isn_tn, isn_ln, isn_in, len_l, len_t, int_i, int_b, abs_i, tup_l, tup_t, list_l, list_t, f1_ap, f2_ap, tru_b, tru_t, tru_l, tru_n, item_lstS, item_lstO, item_tupS, wO_map, wO_bind, isi_int_i, isi_int_b, isi_int_n, isi_int_t, isi_int_l, isi_int_s, isi_bool_i, isi_bool_b, isi_bool_n, isi_tl_t, isi_tl_l, isi_tl_i, isi_tl_n, isi_t_t, isi_t_l, isi_l_t, isi_l_l, slice_l, slice_t, shO_sh, blO_bl, blD_bl, intO_i, seq_l, seq_t, seq_f, ownL_l, two_ap, isSh_s, made_ok, toD_sh, toD_lst, mod_ii, mul_ii, div_ii, add_ll, add_tt, List.getElem?_cons_zero, List.getElem?_cons_succ, List.set_cons_zero, List.set_cons_succ, Option.join_some, Option.join_none, List.map_cons, List.map_nil, if_true, if_false, Bool.false_eq_true, reduceIte, Bool.true_or, Bool.or_true, Bool.false_or, Bool.true_and, Bool.and_true, Bool.false_and, Bool.and_false, true_and, and_true, Bool.not_true, Bool.not_false, decide_eq_true_eq, gD]
    rw [if_neg (by simp)]
    refine wM_lcM natD [g.1, g.2] (fun _ => .bl true) ?_
    simp only [wO_some, wO_none, wO_ite, wM_ok, wM_bad, wM_pure, wM_bind, wM_map, wM_iteB, wM_iteM, wM_nameB, wM_nameS, wM_nameV, wM_nameM, wM_asSh, wM_cons, wM_consO, wM_consT, wM_consB, wM_tup, wM_lst, wM_opS, wM_opN, wM_bl, wM_andT, wM_orT, wM_if, wM_andV, wM_orV, wM_tru, wM_neg, wM_part, wM_slice, wM_call, wM_isi, wM_op1, wM_bO, wM_chain, wM_sub, wM_subN, wM_has, wM_callF, wM_make, wM_newK, wM_newT, wM_get1, wM_get2, wM_field, wM_seq, wM_rngA1, wM_rngA2, wM_enumL, wM_enumT, wM_zipL, wM_zipT, wS_seq, wS_next, wS_brk, wS_cont, wS_bad, wS_if, wS_ret, wS_retN, wS_expr, wS_asg, wS_tg, wS_par, wS_app, wS_put, wS_fldX, wO_bName0, wO_bNameS, wO_bTup, wO_bNil, wO_bCons, wO_fillN, wO_fillS, wO_fillP, putBack_some, putBack_none, putBack_nil, slotSh_s, slotSh_sh, slotSh_ct, slotSh_rc, wipe_nil, wipe_cons, back_nil, back_cons, rest_s, rest_n, rest_sh, rest_ct, rest_rc, add_ii, sub_ii, cmp_ii, eq_ii, ne_ii, is_nn, is_tn, is_ln, is_in, is_bn, is_bb, isn_nn, isn_tn, isn_ln, isn_in, len_l, len_t, int_i, int_b, abs_i, tup_l, tup_t, list_l, list_t, f1_ap, f2_ap, tru_b, tru_t, tru_l, tru_n, item_lstS, item_lstO, item_tupS, wO_map, wO_bind, isi_int_i, isi_int_b, isi_int_n, isi_int_t, isi_int_l, isi_int_s, isi_bool_i, isi_bool_b, isi_bool_n, isi_tl_t, isi_tl_l, isi_tl_i, isi_tl_n, isi_t_t, isi_t_l, isi_l_t, isi_l_l, slice_l, slice_t, shO_sh, blO_bl, blD_bl, intO_i, seq_l, seq_t, seq_f, ownL_l, two_ap, isSh_s, made_ok, toD_sh, toD_lst, mod_ii, mul_ii, div_ii, add_ll, add_tt, List.getElem?_cons_zero, List.getElem?_cons_succ, List.set_cons_zero, List.set_cons_succ, Option.join_some, Option.join_none, List.map_cons, List.map_nil, if_true, if_false, Bool.false_eq_true, reduceIte, Bool.true_or, Bool.or_true, Bool.false_or, Bool.true_and, Bool.and_true, Bool.false_and, Bool.and_false, true_and, and_true, Bool.not_true, Bool.not_false, decide_eq_true_eq]
    refine ⟨by show 2 ≤ lim; decide, fun x hx => ?_, ?_⟩
    · have hx : x < 2 * (1 + leaves + pre.length) := by
        rcases List.mem_cons.mp hx with rfl | hx
        · exact hk.1
        · rcases List.mem_cons.mp hx with rfl | hx
          · exact hk.2
          · simp at hx
      simp only [natD, wO_some, wO_none, wO_ite, wM_ok, wM_bad, wM_pure, wM_bind, wM_map, wM_iteB, wM_iteM, wM_nameB, wM_nameS, wM_nameV, wM_nameM, wM_asSh, wM_cons, wM_consO, wM_consT, wM_consB, wM_tup, wM_lst, wM_opS, wM_opN, wM_bl, wM_andT, wM_orT, wM_if, wM_andV, wM_orV, wM_tru, wM_neg, wM_part, wM_slice, wM_call, wM_isi, wM_op1, wM_bO, wM_chain, wM_sub, wM_subN, wM_has, wM_callF, wM_make, wM_newK, wM_newT, wM_get1, wM_get2, wM_field, wM_seq, wM_rngA1, wM_rngA2, wM_enumL, wM_enumT, wM_zipL, wM_zipT, wS_seq, wS_next, wS_brk, wS_cont, wS_bad, wS_if, wS_ret, wS_retN, wS_expr, wS_asg, wS_tg, wS_par, wS_app, wS_put, wS_fldX, wO_bName0, wO_bNameS, wO_bTup, wO_bNil, wO_bCons, wO_fillN, wO_fillS, wO_fillP, putBack_some, putBack_none, putBack_nil, slotSh_s, slotSh_sh, slotSh_ct, slotSh_rc, wipe_nil, wipe_cons, back_nil, back_cons, rest_s, rest_n, rest_sh, rest_ct, rest_rc, add_ii, sub_ii, cmp_ii, eq_ii, ne_ii, is_nn, is_tn, is_ln, is_in, is_bn, is_bb, isn_nn, isn_tn, isn_ln, isn_in, len_l, len_t, int_i, int_b, abs_i, tup_l, tup_t, list_l, list_t, f1_ap, f2_ap, tru_b, tru_t, tru_l, tru_n, item_lstS, item_lstO, item_tupS, wO_map, wO_bind, isi_int_i, isi_int_b, isi_int_n, isi_int_t, isi_int_l, isi_int_s, isi_bool_i, isi_bool_b, isi_bool_n, isi_tl_t, isi_tl_l, isi_tl_i, isi_tl_n, isi_t_t, isi_t_l, isi_l_t, isi_l_l, slice_l, slice_t, shO_sh, blO_bl, blD_bl, intO_i, seq_l, seq_t, seq_f, ownL_l, two_ap, isSh_s, made_ok, toD_sh, toD_lst, mod_ii, mul_ii, div_ii, add_ll, add_tt, List.getElem?_cons_zero, List.getElem?_cons_succ, List.set_cons_zero, List.set_cons_succ, Option.join_some, Option.join_none, List.map_cons, List.map_nil, if_true, if_false, Bool.false_eq_true, reduceIte, Bool.true_or, Bool.or_true, Bool.false_or, Bool.true_and, Bool.and_true, Bool.false_and, Bool.and_false, true_and, and_true, Bool.not_true, Bool.not_false, decide_eq_true_eq]
      refine literal_w (l := (x : Int)) (n := 1 + (leaves : Int) + (pre.length : Int)) (by omega) (by omega) (by omega) ?_
      simp only [wO_some, wO_none, wO_ite, wM_ok, wM_bad, wM_pure, wM_bind, wM_map, wM_iteB, wM_iteM, wM_nameB, wM_nameS, wM_nameV, wM_nameM, wM_asSh, wM_cons, wM_consO, wM_consT, wM_consB, wM_tup, wM_lst, wM_opS, wM_opN, wM_bl, wM_andT, wM_orT, wM_if, wM_andV, wM_orV, wM_tru, wM_neg, wM_part, wM_slice, wM_call, wM_isi, wM_op1, wM_bO, wM_chain, wM_sub, wM_subN, wM_has, wM_callF, wM_make, wM_newK, wM_newT, wM_get1, wM_get2, wM_field, wM_seq, wM_rngA1, wM_rngA2, wM_enumL, wM_enumT, wM_zipL, wM_zipT, wS_seq, wS_next, wS_brk, wS_cont, wS_bad, wS_if, wS_ret, wS_retN, wS_expr, wS_asg, wS_tg, wS_par, wS_app, wS_put, wS_fldX, wO_bName0, wO_bNameS, wO_bTup, wO_bNil, wO_bCons, wO_fillN, wO_fillS, wO_fillP, putBack_some, putBack_none, putBack_nil, slotSh_s, slotSh_sh, slotSh_ct, slotSh_rc, wipe_nil, wipe_cons, back_nil, back_cons, rest_s, rest_n, rest_sh, rest_ct, rest_rc, add_ii, sub_ii, cmp_ii, eq_ii, ne_ii, is_nn, is_tn, is_ln, is_in, is_bn, is_bb, isn_nn, isn_tn, isn_ln, isn_in, len_l, len_t, int_i, int_b, abs_i, tup_l, tup_t, list_l, list_t, f1_ap, f2_ap, tru_b, tru_t, tru_l, tru_n, item_lstS, item_lstO, item_tupS, wO_map, wO_bind, isi_int_i, isi_int_b, isi_int_n, isi_int_t, isi_int_l, isi_int_s, isi_bool_i, isi_bool_b, isi_bool_n, isi_tl_t, isi_tl_l, isi_tl_i, isi_tl_n, isi_t_t, isi_t_l, isi_l_t, isi_l_l, slice_l, slice_t, shO_sh, blO_bl, blD_bl, intO_i, seq_l, seq_t, seq_f, ownL_l, two_ap, isSh_s, made_ok, toD_sh, toD_lst, mod_ii, mul_ii, div_ii, add_ll, add_tt, List.getElem?_cons_zero, List.getElem?_cons_succ, List.set_cons_zero, List.set_cons_succ, Option.join_some, Option.join_none, List.map_cons, List.map_nil, if_true, if_false, Bool.false_eq_true, reduceIte, Bool.true_or, Bool.or_true, Bool.false_or, Bool.true_and, Bool.and_true, Bool.false_and, Bool.and_false, true_and, and_true, Bool.not_true, Bool.not_false, decide_eq_true_eq]
    · have e2 : allD (.lst [D.bl true, D.bl true]) = some (.sh (.bl true)) := rfl
      simp only [wO_some, wO_none, wO_ite, wM_ok, wM_bad, wM_pure, wM_bind, wM_map, wM_iteB, wM_iteM, wM_nameB, wM_nameS, wM_nameV, wM_nameM, wM_asSh, wM_cons, wM_consO, wM_consT, wM_consB, wM_tup, wM_lst, wM_opS, wM_opN, wM_bl, wM_andT, wM_orT, wM_if, wM_andV, wM_orV, wM_tru, wM_neg, wM_part, wM_slice, wM_call, wM_isi, wM_op1, wM_bO, wM_chain, wM_sub, wM_subN, wM_has, wM_callF, wM_make, wM_newK, wM_newT, wM_get1, wM_get2, wM_field, wM_seq, wM_rngA1, wM_rngA2, wM_enumL, wM_enumT, wM_zipL, wM_zipT, wS_seq, wS_next, wS_brk, wS_cont, wS_bad, wS_if, wS_ret, wS_retN, wS_expr, wS_asg, wS_tg, wS_par, wS_app, wS_put, wS_fldX, wO_bName0, wO_bNameS, wO_bTup, wO_bNil, wO_bCons, wO_fillN, wO_fillS, wO_fillP, putBack_some, putBack_none, putBack_nil, slotSh_s, slotSh_sh, slotSh_ct, slotSh_rc, wipe_nil, wipe_cons, back_nil, back_cons, rest_s, rest_n, rest_sh, rest_ct, rest_rc, add_ii, sub_ii, cmp_ii, eq_ii, ne_ii, is_nn, is_tn, is_ln, is_in, is_bn, is_bb, isn_nn, isn_tn, isn_ln, isn_in, len_l, len_t, int_i, int_b, abs_i, tup_l, tup_t, list_l, list_t, f1_ap, f2_ap, tru_b, tru_t, tru_l, tru_n, item_lstS, item_lstO, item_tupS, wO_map, wO_bind, isi_int_i, isi_int_b, isi_int_n, isi_int_t, isi_int_l, isi_int_s, isi_bool_i, isi_bool_b, isi_bool_n, isi_tl_t, isi_tl_l, isi_tl_i, isi_tl_n, isi_t_t, isi_t_l, isi_l_t, isi_l_l, slice_l, slice_t, shO_sh, blO_bl, blD_bl, intO_i, seq_l, seq_t, seq_f, ownL_l, two_ap, isSh_s, made_ok, toD_sh, toD_lst, mod_ii, mul_ii, div_ii, add_ll, add_tt, List.getElem?_cons_zero, List.getElem?_cons_succ, List.set_cons_zero, List.set_cons_succ, Option.join_some, Option.join_none, List.map_cons, List.map_nil, if_true, if_false, Bool.false_eq_true, reduceIte, Bool.true_or, Bool.or_true, Bool.false_or, Bool.true_and, Bool.and_true, Bool.false_and, Bool.and_false, true_and, and_true, Bool.not_true, Bool.not_false, decide_eq_true_eq, e2]
      exact ⟨_, _, rfl⟩
  · rintro _ ⟨a, b, rfl⟩
    exact q
/-- a graph as an object -/
def gO (leaves : Nat) (gs : List (Nat × Nat)) : O := .rc (.ob "Graph" ["leaves", "gates"]) [.sh (natD leaves), .sh (.tup (gs.map gD))]
theorem set_leaves {d : D} : fldSet tbl "leaves" (.sh d) (.rc (.ob "Graph" []) []) = some (.rc (.ob "Graph" ["leaves"]) [.sh d]) := by
  simp [fldSet, tbl_Graph_leaves, putN, putG, toFd]
theorem set_gates {d e : D} : fldSet tbl "gates" (.sh e) (.rc (.ob "Graph" ["leaves"]) [.sh d]) = some (.rc (.ob "Graph" ["leaves", "gates"]) [.sh d, .sh e]) := by
  have h : ¬ (("leaves" : Str) = "gates") := by decide +kernel
  simp [fldSet, tbl_Graph_gates, putN, putG, toFd, h]
theorem Graph_w {leaves : Nat} {gs : List (Nat × Nat)} (hg : GOk leaves gs) (hl : leaves ≤ 1000) (hn : gs.length ≤ 1000)
    (q : Q (.sh .non) [some (gO leaves gs), some (.sh (natD leaves)), some (.sh (.tup (gs.map gD)))]) :
    wM (sem_Graph___init__ [.rc (.ob "Graph" []) [], .sh (natD leaves), .sh (.tup (gs.map gD))]) Q X := by
  refine sem_w [some (.rc (.ob "Graph" []) []), some (.sh (natD leaves)), some (.sh (.tup (gs.map gD))), none] rfl rfl ?_
  unfold d_Graph___init__
  simp only [wO_some, wO_none, wO_ite, wM_ok, wM_bad, wM_pure, wM_bind, wM_map, wM_iteB, wM_iteM, wM_nameB, wM_nameS, wM_nameV, wM_nameM, wM_asSh, wM_cons, wM_consO, wM_consT, wM_consB, wM_tup, wM_lst, wM_opS, wM_opN, wM_bl, wM_andT, wM_orT, wM_if, wM_andV, wM_orV, wM_tru, wM_neg, wM_part, wM_slice, wM_call, wM_isi, wM_op1, wM_bO, wM_chain, wM_sub, wM_subN, wM_has, wM_callF, wM_make, wM_newK, wM_newT, wM_get1, wM_get2, wM_field, wM_seq, wM_rngA1, wM_rngA2, wM_enumL, wM_enumT, wM_zipL, wM_zipT, wS_seq, wS_next, wS_brk, wS_cont, wS_bad, wS_if, wS_ret, wS_retN, wS_expr, wS_asg, wS_tg, wS_par, wS_app, wS_put, wS_fldX, wO_bName0, wO_bNameS, wO_bTup, wO_bNil, wO_bCons, wO_fillN, wO_fillS, wO_fillP, putBack_some, putBack_none, putBack_nil, slotSh_s, slotSh_sh, slotSh_ct, slotSh_rc, wipe_nil, wipe_cons, back_nil, back_cons, rest_s, rest_n, rest_sh, rest_ct, rest_rc, add_ii, sub_ii, cmp_ii, eq_ii, ne_ii, is_nn, is_tn, is_ln, is_in, is_bn, is_bb, isn_nn, isn_tn, isn_ln, isn_in, len_l, len_t, int_i, int_b, abs_i, tup_l, tup_t, list_l, list_t, f1_ap, f2_ap, tru_b, tru_t, tru_l, tru_n, item_lstS, item_lstO, item_tupS, wO_map, wO_bind, isi_int_i, isi_int_b, isi_int_n, isi_int_t, isi_int_l, isi_int_s, isi_bool_i, isi_bool_b, isi_bool_n, isi_tl_t, isi_tl_l, isi_tl_i, isi_tl_n, isi_t_t, isi_t_l, isi_l_t, isi_l_l, slice_l, slice_t, shO_sh, blO_bl, blD_bl, intO_i, seq_l, seq_t, seq_f, ownL_l, two_ap, isSh_s, made_ok, toD_sh, toD_lst, mod_ii, mul_ii, div_ii, add_ll, add_tt, List.getElem?_cons_zero, List.getElem?_cons_succ, List.set_cons_zero, List.set_cons_succ, Option.join_some, Option.join_none, List.map_cons, List.map_nil, if_true, if_false, Bool.false_eq_true, reduceIte, Bool.true_or, Bool.or_true, Bool.false_or, Bool.true_and, Bool.and_true, Bool.false_and, Bool.and_false, true_and, and_true, Bool.not_true, Bool.not_false, decide_eq_true_eq]
  refine count_w (l := (leaves : Int)) (by omega) ?_
  simp only [wO_some, wO_none, wO_ite, wM_ok, wM_bad, wM_pure, wM_bind, wM_map, wM_iteB, wM_iteM, wM_nameB, wM_nameS, wM_nameV, wM_nameM, wM_asSh, wM_cons, wM_consO, wM_consT, wM_consB, wM_tup, wM_lst, wM_opS, wM_opN, wM_bl, wM_andT, wM_orT, wM_if, wM_andV, wM_orV, wM_tru, wM_neg, wM_part, wM_slice, wM_call, wM_isi, wM_op1, wM_bO, wM_chain, wM_sub, wM_subN, wM_has, wM_callF, wM_make, wM_newK, wM_newT, wM_get1, wM_get2, wM_field, wM_seq, wM_rngA1, wM_rngA2, wM_enumL, wM_enumT, wM_zipL, wM_zipT, wS_seq, wS_next, wS_brk, wS_cont, wS_bad, wS_if, wS_ret, wS_retN, wS_expr, wS_asg, wS_tg, wS_par, wS_app, wS_put, wS_fldX, wO_bName0, wO_bNameS, wO_bTup, wO_bNil, wO_bCons, wO_fillN, wO_fillS, wO_fillP, putBack_some, putBack_none, putBack_nil, slotSh_s, slotSh_sh, slotSh_ct, slotSh_rc, wipe_nil, wipe_cons, back_nil, back_cons, rest_s, rest_n, rest_sh, rest_ct, rest_rc, add_ii, sub_ii, cmp_ii, eq_ii, ne_ii, is_nn, is_tn, is_ln, is_in, is_bn, is_bb, isn_nn, isn_tn, isn_ln, isn_in, len_l, len_t, int_i, int_b, abs_i, tup_l, tup_t, list_l, list_t, f1_ap, f2_ap, tru_b, tru_t, tru_l, tru_n, item_lstS, item_lstO, item_tupS, wO_map, wO_bind, isi_int_i, isi_int_b, isi_int_n, isi_int_t, isi_int_l, isi_int_s, isi_bool_i, isi_bool_b, isi_bool_n, isi_tl_t, isi_tl_l, isi_tl_i, isi_tl_n, isi_t_t, isi_t_l, isi_l_t, isi_l_l, slice_l, slice_t, shO_sh, blO_bl, blD_bl, intO_i, seq_l, seq_t, seq_f, ownL_l, two_ap, isSh_s, made_ok, toD_sh, toD_lst, mod_ii, mul_ii, div_ii, add_ll, add_tt, List.getElem?_cons_zero, List.getElem?_cons_succ, List.set_cons_zero, List.set_cons_succ, Option.join_some, Option.join_none, List.map_cons, List.map_nil, if_true, if_false, Bool.false_eq_true, reduceIte, Bool.true_or, Bool.or_true, Bool.false_or, Bool.true_and, Bool.and_true, Bool.false_and, Bool.and_false, true_and, and_true, Bool.not_true, Bool.not_false, decide_eq_true_eq]
  refine are_gates_w hg hl hn ?_
  simp only [wO_some, wO_none, wO_ite, wM_ok, wM_bad, wM_pure, wM_bind, wM_map, wM_iteB, wM_iteM, wM_nameB, wM_nameS, wM_nameV, wM_nameM, wM_asSh, wM_cons, wM_consO, wM_consT, wM_consB, wM_tup, wM_lst, wM_opS, wM_opN, wM_bl, wM_andT, wM_orT, wM_if, wM_andV, wM_orV, wM_tru, wM_neg, wM_part, wM_slice, wM_call, wM_isi, wM_op1, wM_bO, wM_chain, wM_sub, wM_subN, wM_has, wM_callF, wM_make, wM_newK, wM_newT, wM_get1, wM_get2, wM_field, wM_seq, wM_rngA1, wM_rngA2, wM_enumL, wM_enumT, wM_zipL, wM_zipT, wS_seq, wS_next, wS_brk, wS_cont, wS_bad, wS_if, wS_ret, wS_retN, wS_expr, wS_asg, wS_tg, wS_par, wS_app, wS_put, wS_fldX, wO_bName0, wO_bNameS, wO_bTup, wO_bNil, wO_bCons, wO_fillN, wO_fillS, wO_fillP, putBack_some, putBack_none, putBack_nil, slotSh_s, slotSh_sh, slotSh_ct, slotSh_rc, wipe_nil, wipe_cons, back_nil, back_cons, rest_s, rest_n, rest_sh, rest_ct, rest_rc, add_ii, sub_ii, cmp_ii, eq_ii, ne_ii, is_nn, is_tn, is_ln, is_in, is_bn, is_bb, isn_nn, isn_tn, isn_ln, isn_in, len_l, len_t, int_i, int_b, abs_i, tup_l, tup_t, list_l, list_t, f1_ap, f2_ap, tru_b, tru_t, tru_l, tru_n, item_lstS, item_lstO, item_tupS, wO_map, wO_bind, isi_int_i, isi_int_b, isi_int_n, isi_int_t, isi_int_l, isi_int_s, isi_bool_i, isi_bool_b, isi_bool_n, isi_tl_t, isi_tl_l, isi_tl_i, isi_tl_n, isi_t_t, isi_t_l, isi_l_t, isi_l_l, slice_l, slice_t, shO_sh, blO_bl, blD_bl, intO_i, seq_l, seq_t, seq_f, ownL_l, two_ap, isSh_s, made_ok, toD_sh, toD_lst, mod_ii, mul_ii, div_ii, add_ll, add_tt, List.getElem?_cons_zero, List.getElem?_cons_succ, List.set_cons_zero, List.set_cons_succ, Option.join_some, Option.join_none, List.map_cons, List.map_nil, if_true, if_false, Bool.false_eq_true, reduceIte, Bool.true_or, Bool.or_true, Bool.false_or, Bool.true_and, Bool.and_true, Bool.false_and, Bool.and_false, true_and, and_true, Bool.not_true, Bool.not_false, decide_eq_true_eq, set_leaves]
  refine wM_lcM gD gs gD ?_
  simp only [wO_some, wO_none, wO_ite, wM_ok, wM_bad, wM_pure, wM_bind, wM_map, wM_iteB, wM_iteM, wM_nameB, wM_nameS, wM_nameV, wM_nameM, wM_asSh, wM_cons, wM_consO, wM_consT, wM_consB, wM_tup, wM_lst, wM_opS, wM_opN, wM_bl, wM_andT, wM_orT, wM_if, wM_andV, wM_orV, wM_tru, wM_neg, wM_part, wM_slice, wM_call, wM_isi, wM_op1, wM_bO, wM_chain, wM_sub, wM_subN, wM_has, wM_callF, wM_make, wM_newK, wM_newT, wM_get1, wM_get2, wM_field, wM_seq, wM_rngA1, wM_rngA2, wM_enumL, wM_enumT, wM_zipL, wM_zipT, wS_seq, wS_next, wS_brk, wS_cont, wS_bad, wS_if, wS_ret, wS_retN, wS_expr, wS_asg, wS_tg, wS_par, wS_app, wS_put, wS_fldX, wO_bName0, wO_bNameS, wO_bTup, wO_bNil, wO_bCons, wO_fillN, wO_fillS, wO_fillP, putBack_some, putBack_none, putBack_nil, slotSh_s, slotSh_sh, slotSh_ct, slotSh_rc, wipe_nil, wipe_cons, back_nil, back_cons, rest_s, rest_n, rest_sh, rest_ct, rest_rc, add_ii, sub_ii, cmp_ii, eq_ii, ne_ii, is_nn, is_tn, is_ln, is_in, is_bn, is_bb, isn_nn, isn_tn, isn_ln, isn_in, len_l, len_t, int_i, int_b, abs_i, tup_l, tup_t, list_l, list_t, f1_ap, f2_ap, tru_b, tru_t, tru_l, tru_n, item_lstS, item_lstO, item_tupS, wO_map, wO_bind, isi_int_i, isi_int_b, isi_int_n, isi_int_t, isi_int_l, isi_int_s, isi_bool_i, isi_bool_b, isi_bool_n, isi_tl_t, isi_tl_l, isi_tl_i, isi_tl_n, isi_t_t, isi_t_l, isi_l_t, isi_l_l, slice_l, slice_t, shO_sh, blO_bl, blD_bl, intO_i, seq_l, seq_t, seq_f, ownL_l, two_ap, isSh_s, made_ok, toD_sh, toD_lst, mod_ii, mul_ii, div_ii, add_ll, add_tt, List.getElem?_cons_zero, List.getElem?_cons_succ, List.set_cons_zero, List.set_cons_succ, Option.join_some, Option.join_none, List.map_cons, List.map_nil, if_true, if_false, Bool.false_eq_true, reduceIte, Bool.true_or, Bool.or_true, Bool.false_or, Bool.true_and, Bool.and_true, Bool.false_and, Bool.and_false, true_and, and_true, Bool.not_true, Bool.not_false, decide_eq_true_eq, gD]
  refine ⟨by show gs.length ≤ 16777216; omega, fun x hx => trivial, ?_⟩
  simp only [wO_some, wO_none, wO_ite, wM_ok, wM_bad, wM_pure, wM_bind, wM_map, wM_iteB, wM_iteM, wM_nameB, wM_nameS, wM_nameV, wM_nameM, wM_asSh, wM_cons, wM_consO, wM_consT, wM_consB, wM_tup, wM_lst, wM_opS, wM_opN, wM_bl, wM_andT, wM_orT, wM_if, wM_andV, wM_orV, wM_tru, wM_neg, wM_part, wM_slice, wM_call, wM_isi, wM_op1, wM_bO, wM_chain, wM_sub, wM_subN, wM_has, wM_callF, wM_make, wM_newK, wM_newT, wM_get1, wM_get2, wM_field, wM_seq, wM_rngA1, wM_rngA2, wM_enumL, wM_enumT, wM_zipL, wM_zipT, wS_seq, wS_next, wS_brk, wS_cont, wS_bad, wS_if, wS_ret, wS_retN, wS_expr, wS_asg, wS_tg, wS_par, wS_app, wS_put, wS_fldX, wO_bName0, wO_bNameS, wO_bTup, wO_bNil, wO_bCons, wO_fillN, wO_fillS, wO_fillP, putBack_some, putBack_none, putBack_nil, slotSh_s, slotSh_sh, slotSh_ct, slotSh_rc, wipe_nil, wipe_cons, back_nil, back_cons, rest_s, rest_n, rest_sh, rest_ct, rest_rc, add_ii, sub_ii, cmp_ii, eq_ii, ne_ii, is_nn, is_tn, is_ln, is_in, is_bn, is_bb, isn_nn, isn_tn, isn_ln, isn_in, len_l, len_t, int_i, int_b, abs_i, tup_l, tup_t, list_l, list_t, f1_ap, f2_ap, tru_b, tru_t, tru_l, tru_n, item_lstS, item_lstO, item_tupS, wO_map, wO_bind, isi_int_i, isi_int_b, isi_int_n, isi_int_t, isi_int_l, isi_int_s, isi_bool_i, isi_bool_b, isi_bool_n, isi_tl_t, isi_tl_l, isi_tl_i, isi_tl_n, isi_t_t, isi_t_l, isi_l_t, isi_l_l, slice_l, slice_t, shO_sh, blO_bl, blD_bl, intO_i, seq_l, seq_t, seq_f, ownL_l, two_ap, isSh_s, made_ok, toD_sh, toD_lst, mod_ii, mul_ii, div_ii, add_ll, add_tt, List.getElem?_cons_zero, List.getElem?_cons_succ, List.set_cons_zero, List.set_cons_succ, Option.join_some, Option.join_none, List.map_cons, List.map_nil, if_true, if_false, Bool.false_eq_true, reduceIte, Bool.true_or, Bool.or_true, Bool.false_or, Bool.true_and, Bool.and_true, Bool.false_and, Bool.and_false, true_and, and_true, Bool.not_true, Bool.not_false, decide_eq_true_eq, set_gates]
  exact q
theorem g_leaves {z : Option Nat} {leaves : Nat} {gs : List (Nat × Nat)} : fieldO tbl "leaves" (z, gO leaves gs) = some (none, .sh (natD leaves)) := by
  simp [fieldO, gO, tbl_Graph_leaves, lookD]
theorem g_gates {z : Option Nat} {leaves : Nat} {gs : List (Nat × Nat)} : fieldO tbl "gates" (z, gO leaves gs) = some (none, .sh (.tup (gs.map gD))) := by
  have h : ¬ (("gates" : Str) = "leaves") := by decide +kernel
  simp [fieldO, gO, tbl_Graph_gates, lookD, h]
theorem fldV_leaves {leaves : Nat} {gs : List (Nat × Nat)} {Q : D → DL.Env → Prop} : wM (mFldV tbl 0 "leaves" (some (gO leaves gs) :: ρ)) Q X = Q (natD leaves) (some (gO leaves gs) :: ρ) := by
  have h : fldCt tbl (some (gO leaves gs) :: ρ) 0 "leaves" = none := by
    simp [fldCt, gO, tbl_Graph_leaves, lookD]
  simp only [wM_fldV, h, List.getElem?_cons_zero, Option.join_some, wO_some, g_leaves, shO_sh]
theorem fldV_gates {leaves : Nat} {gs : List (Nat × Nat)} {Q : D → DL.Env → Prop} : wM (mFldV tbl 0 "gates" (some (gO leaves gs) :: ρ)) Q X = Q (.tup (gs.map gD)) (some (gO leaves gs) :: ρ) := by
  have h : fldCt tbl (some (gO leaves gs) :: ρ) 0 "gates" = none := by
    have h : ¬ (("gates" : Str) = "leaves") := by decide +kernel
    simp [fldCt, gO, tbl_Graph_gates, lookD, h]
  simp only [wM_fldV, h, List.getElem?_cons_zero, Option.join_some, wO_some, g_gates, shO_sh]
/-! ### the values of the nodes -/
/-- the value of a literal -/
def bitL (vs : List Nat) (l : Nat) : Nat := if l % 2 = 0 then vs.getD (l / 2) 0 else 1 - vs.getD (l / 2) 0
def valsG (vs : List Nat) (gs : List (Nat × Nat)) : List Nat := gs.foldl (fun vs g => vs ++ [bitL vs g.1 * bitL vs g.2]) vs
def valsL (gs : List (Nat × Nat)) (bs : List Nat) : List Nat := valsG (0 :: bs) gs
theorem valsG_snoc {vs : List Nat} {gs : List (Nat × Nat)} {g : Nat × Nat} : valsG vs (gs ++ [g]) = valsG vs gs ++ [bitL (valsG vs gs) g.1 * bitL (valsG vs gs) g.2] := by simp [valsG, List.foldl_append]
theorem valsG_len {vs : List Nat} {gs : List (Nat × Nat)} : (valsG vs gs).length = vs.length + gs.length := by
  induction gs generalizing vs with
  | nil => rfl
  | cons g gs ih =>
    show (valsG (vs ++ [_]) gs).length = _
    rw [ih]
    simp
    omega
theorem bitL_le {vs : List Nat} (h : ∀ v ∈ vs, v < 2) (l : Nat) : bitL vs l < 2 := by
  unfold bitL
  have hv : vs.getD (l / 2) 0 < 2 := by
    rw [List.getD_eq_getElem?_getD]
    rcases q : vs[l / 2]? with _ | v
    · simp
    · exact h v (List.mem_of_getElem? q)
  split <;> omega
theorem valsG_bit {vs : List Nat} {gs : List (Nat × Nat)} (h : ∀ v ∈ vs, v < 2) : ∀ v ∈ valsG vs gs, v < 2 := by
  induction gs generalizing vs with
  | nil => exact h
  | cons g gs ih =>
    refine ih (vs := vs ++ [_]) fun v hv => ?_
    rcases List.mem_append.mp hv with hv | hv
    · exact h v hv
    · simp at hv
      subst hv
      have h1 := bitL_le h g.1
      have h2 := bitL_le h g.2
      rcases (by omega : bitL vs g.1 = 0 ∨ bitL vs g.1 = 1) with z | z <;> rw [z] <;> omega
theorem valsL_len {bs : List Nat} {gs : List (Nat × Nat)} : (valsL gs bs).length = 1 + bs.length + gs.length := by rw [valsL, valsG_len]; simp; omega
theorem valsL_bit {bs : List Nat} {gs : List (Nat × Nat)} (h : ∀ v ∈ bs, v < 2) : ∀ v ∈ valsL gs bs, v < 2 := valsG_bit fun v hv => by
  rcases List.mem_cons.mp hv with rfl | hv
  · omega
  · exact h v hv
theorem abs_bit {v l : Nat} (hv : v < 2) : (if (v : Int) - (l : Int) % 2 < 0 then -((v : Int) - (l : Int) % 2) else (v : Int) - (l : Int) % 2) = (((if l % 2 = 0 then v else 1 - v) : Nat) : Int) := by
  split <;> split <;> omega
theorem bit_w {vs : List Nat} {l : Nat} (hb : ∀ v ∈ vs, v < 2) (hl : l / 2 < vs.length) (h : l < 1000000) (q : Q (.sh (natD (bitL vs l))) [some (.lst (vs.map natD)), some (.sh (natD l))]) :
    wM (sem__law_bit [.lst (vs.map natD), .sh (natD l)]) Q X := by
  refine sem_w [some (.lst (vs.map natD)), some (.sh (natD l))] rfl rfl ?_
  unfold d__law_bit
  simp only [natD, wO_some, wO_none, wO_ite, wM_ok, wM_bad, wM_pure, wM_bind, wM_map, wM_iteB, wM_iteM, wM_nameB, wM_nameS, wM_nameV, wM_nameM, wM_asSh, wM_cons, wM_consO, wM_consT, wM_consB, wM_tup, wM_lst, wM_opS, wM_opN, wM_bl, wM_andT, wM_orT, wM_if, wM_andV, wM_orV, wM_tru, wM_neg, wM_part, wM_slice, wM_call, wM_isi, wM_op1, wM_bO, wM_chain, wM_sub, wM_subN, wM_has, wM_callF, wM_make, wM_newK, wM_newT, wM_get1, wM_get2, wM_field, wM_seq, wM_rngA1, wM_rngA2, wM_enumL, wM_enumT, wM_zipL, wM_zipT, wS_seq, wS_next, wS_brk, wS_cont, wS_bad, wS_if, wS_ret, wS_retN, wS_expr, wS_asg, wS_tg, wS_par, wS_app, wS_put, wS_fldX, wO_bName0, wO_bNameS, wO_bTup, wO_bNil, wO_bCons, wO_fillN, wO_fillS, wO_fillP, putBack_some, putBack_none, putBack_nil, slotSh_s, slotSh_sh, slotSh_ct, slotSh_rc, wipe_nil, wipe_cons, back_nil, back_cons, rest_s, rest_n, rest_sh, rest_ct, rest_rc, add_ii, sub_ii, cmp_ii, eq_ii, ne_ii, is_nn, is_tn, is_ln, is_in, is_bn, is_bb, isn_nn, isn_tn, isn_ln, isn_in, len_l, len_t, int_i, int_b, abs_i, tup_l, tup_t, list_l, list_t, f1_ap, f2_ap, tru_b, tru_t, tru_l, tru_n, item_lstS, item_lstO, item_tupS, wO_map, wO_bind, isi_int_i, isi_int_b, isi_int_n, isi_int_t, isi_int_l, isi_int_s, isi_bool_i, isi_bool_b, isi_bool_n, isi_tl_t, isi_tl_l, isi_tl_i, isi_tl_n, isi_t_t, isi_t_l, isi_l_t, isi_l_l, slice_l, slice_t, shO_sh, blO_bl, blD_bl, intO_i, seq_l, seq_t, seq_f, ownL_l, two_ap, isSh_s, made_ok, toD_sh, toD_lst, mod_ii, mul_ii, div_ii, add_ll, add_tt, List.getElem?_cons_zero, List.getElem?_cons_succ, List.set_cons_zero, List.set_cons_succ, Option.join_some, Option.join_none, List.map_cons, List.map_nil, if_true, if_false, Bool.false_eq_true, reduceIte, Bool.true_or, Bool.or_true, Bool.false_or, Bool.true_and, Bool.and_true, Bool.false_and, Bool.and_false, true_and, and_true, Bool.not_true, Bool.not_false, decide_eq_true_eq]
  refine ⟨⟨by decide, small512 (by omega) (by omega)⟩, ?_⟩
  have e2 : (l : Int) / 2 = ((l / 2 : Nat) : Int) := by omega
  rw [e2]
  have hv : vs[l / 2]? = some vs[l / 2] := List.getElem?_eq_getElem hl
  refine wO_atN (d := natD vs[l / 2]) (by rw [List.getElem?_map, hv]; rfl) ?_
  simp only [natD, wO_some, wO_none, wO_ite, wM_ok, wM_bad, wM_pure, wM_bind, wM_map, wM_iteB, wM_iteM, wM_nameB, wM_nameS, wM_nameV, wM_nameM, wM_asSh, wM_cons, wM_consO, wM_consT, wM_consB, wM_tup, wM_lst, wM_opS, wM_opN, wM_bl, wM_andT, wM_orT, wM_if, wM_andV, wM_orV, wM_tru, wM_neg, wM_part, wM_slice, wM_call, wM_isi, wM_op1, wM_bO, wM_chain, wM_sub, wM_subN, wM_has, wM_callF, wM_make, wM_newK, wM_newT, wM_get1, wM_get2, wM_field, wM_seq, wM_rngA1, wM_rngA2, wM_enumL, wM_enumT, wM_zipL, wM_zipT, wS_seq, wS_next, wS_brk, wS_cont, wS_bad, wS_if, wS_ret, wS_retN, wS_expr, wS_asg, wS_tg, wS_par, wS_app, wS_put, wS_fldX, wO_bName0, wO_bNameS, wO_bTup, wO_bNil, wO_bCons, wO_fillN, wO_fillS, wO_fillP, putBack_some, putBack_none, putBack_nil, slotSh_s, slotSh_sh, slotSh_ct, slotSh_rc, wipe_nil, wipe_cons, back_nil, back_cons, rest_s, rest_n, rest_sh, rest_ct, rest_rc, add_ii, sub_ii, cmp_ii, eq_ii, ne_ii, is_nn, is_tn, is_ln, is_in, is_bn, is_bb, isn_nn, isn_tn, isn_ln, isn_in, len_l, len_t, int_i, int_b, abs_i, tup_l, tup_t, list_l, list_t, f1_ap, f2_ap, tru_b, tru_t, tru_l, tru_n, item_lstS, item_lstO, item_tupS, wO_map, wO_bind, isi_int_i, isi_int_b, isi_int_n, isi_int_t, isi_int_l, isi_int_s, isi_bool_i, isi_bool_b, isi_bool_n, isi_tl_t, isi_tl_l, isi_tl_i, isi_tl_n, isi_t_t, isi_t_l, isi_l_t, isi_l_l, slice_l, slice_t, shO_sh, blO_bl, blD_bl, intO_i, seq_l, seq_t, seq_f, ownL_l, two_ap, isSh_s, made_ok, toD_sh, toD_lst, mod_ii, mul_ii, div_ii, add_ll, add_tt, List.getElem?_cons_zero, List.getElem?_cons_succ, List.set_cons_zero, List.set_cons_succ, Option.join_some, Option.join_none, List.map_cons, List.map_nil, if_true, if_false, Bool.false_eq_true, reduceIte, Bool.true_or, Bool.or_true, Bool.false_or, Bool.true_and, Bool.and_true, Bool.false_and, Bool.and_false, true_and, and_true, Bool.not_true, Bool.not_false, decide_eq_true_eq]
  refine ⟨by decide, ?_⟩
  rw [abs_bit (hb _ (List.getElem_mem hl))]
  have e3 : bitL vs l = if l % 2 = 0 then vs[l / 2] else 1 - vs[l / 2] := by unfold bitL; rw [List.getD_eq_getElem?_getD, hv]; rfl
  rw [← e3]
  exact q
theorem values_w {d : D} {leaves : Nat} {gs : List (Nat × Nat)} {bs : List Nat} (hg : GOk leaves gs) (hl : leaves ≤ 1000) (hn : gs.length ≤ 1000) (hb : ∀ v ∈ bs, v < 2) (hbl : bs.length = leaves)
    (q : Q (.lst ((valsL gs bs).map natD)) [some (.sh d), some (.sh (.tup (gs.map gD))), some (.sh (bitsD bs))]) :
    wM (sem__law_values [.sh d, .sh (.tup (gs.map gD)), .sh (bitsD bs)]) Q X := by
  refine sem_w [some (.sh d), some (.sh (.tup (gs.map gD))), some (.sh (bitsD bs)), none, none, none] rfl rfl ?_
  unfold d__law_values
  simp only [wO_some, wO_none, wO_ite, wM_ok, wM_bad, wM_pure, wM_bind, wM_map, wM_iteB, wM_iteM, wM_nameB, wM_nameS, wM_nameV, wM_nameM, wM_asSh, wM_cons, wM_consO, wM_consT, wM_consB, wM_tup, wM_lst, wM_opS, wM_opN, wM_bl, wM_andT, wM_orT, wM_if, wM_andV, wM_orV, wM_tru, wM_neg, wM_part, wM_slice, wM_call, wM_isi, wM_op1, wM_bO, wM_chain, wM_sub, wM_subN, wM_has, wM_callF, wM_make, wM_newK, wM_newT, wM_get1, wM_get2, wM_field, wM_seq, wM_rngA1, wM_rngA2, wM_enumL, wM_enumT, wM_zipL, wM_zipT, wS_seq, wS_next, wS_brk, wS_cont, wS_bad, wS_if, wS_ret, wS_retN, wS_expr, wS_asg, wS_tg, wS_par, wS_app, wS_put, wS_fldX, wO_bName0, wO_bNameS, wO_bTup, wO_bNil, wO_bCons, wO_fillN, wO_fillS, wO_fillP, putBack_some, putBack_none, putBack_nil, slotSh_s, slotSh_sh, slotSh_ct, slotSh_rc, wipe_nil, wipe_cons, back_nil, back_cons, rest_s, rest_n, rest_sh, rest_ct, rest_rc, add_ii, sub_ii, cmp_ii, eq_ii, ne_ii, is_nn, is_tn, is_ln, is_in, is_bn, is_bb, isn_nn, isn_tn, isn_ln, isn_in, len_l, len_t, int_i, int_b, abs_i, tup_l, tup_t, list_l, list_t, f1_ap, f2_ap, tru_b, tru_t, tru_l, tru_n, item_lstS, item_lstO, item_tupS, wO_map, wO_bind, isi_int_i, isi_int_b, isi_int_n, isi_int_t, isi_int_l, isi_int_s, isi_bool_i, isi_bool_b, isi_bool_n, isi_tl_t, isi_tl_l, isi_tl_i, isi_tl_n, isi_t_t, isi_t_l, isi_l_t, isi_l_l, slice_l, slice_t, shO_sh, blO_bl, blD_bl, intO_i, seq_l, seq_t, seq_f, ownL_l, two_ap, isSh_s, made_ok, toD_sh, toD_lst, mod_ii, mul_ii, div_ii, add_ll, add_tt, List.getElem?_cons_zero, List.getElem?_cons_succ, List.set_cons_zero, List.set_cons_succ, Option.join_some, Option.join_none, List.map_cons, List.map_nil, if_true, if_false, Bool.false_eq_true, reduceIte, Bool.true_or, Bool.or_true, Bool.false_or, Bool.true_and, Bool.and_true, Bool.false_and, Bool.and_false, true_and, and_true, Bool.not_true, Bool.not_false, decide_eq_true_eq, bitsD, List.length_cons, List.length_nil, List.length_map]
  refine ⟨by show 1 ≤ lim; decide, by show _ ≤ 16777216; omega, ?_⟩
  refine wS_forL gD gs (fun pre ρ => ∃ a b, ρ = [some (.sh d), some (.sh (.tup (gs.map gD))), some (.sh (.tup (bs.map natD))), some (.lst ((valsL pre bs).map natD)), a, b]) ?_ ?_ ?_
  · simp only [wO_some, wO_none, wO_ite, wM_ok, wM_bad, wM_pure, wM_bind, wM_map, wM_iteB, wM_iteM, wM_nameB, wM_nameS, wM_nameV, wM_nameM, wM_asSh, wM_cons, wM_consO, wM_consT, wM_consB, wM_tup, wM_lst, wM_opS, wM_opN, wM_bl, wM_andT, wM_orT, wM_if, wM_andV, wM_orV, wM_tru, wM_neg, wM_part, wM_slice, wM_call, wM_isi, wM_op1, wM_bO, wM_chain, wM_sub, wM_subN, wM_has, wM_callF, wM_make, wM_newK, wM_newT, wM_get1, wM_get2, wM_field, wM_seq, wM_rngA1, wM_rngA2, wM_enumL, wM_enumT, wM_zipL, wM_zipT, wS_seq, wS_next, wS_brk, wS_cont, wS_bad, wS_if, wS_ret, wS_retN, wS_expr, wS_asg, wS_tg, wS_par, wS_app, wS_put, wS_fldX, wO_bName0, wO_bNameS, wO_bTup, wO_bNil, wO_bCons, wO_fillN, wO_fillS, wO_fillP, putBack_some, putBack_none, putBack_nil, slotSh_s, slotSh_sh, slotSh_ct, slotSh_rc, wipe_nil, wipe_cons, back_nil, back_cons, rest_s, rest_n, rest_sh, rest_ct, rest_rc, add_ii, sub_ii, cmp_ii, eq_ii, ne_ii, is_nn, is_tn, is_ln, is_in, is_bn, is_bb, isn_nn, isn_tn, isn_ln, isn_in, len_l, len_t, int_i, int_b, abs_i, tup_l, tup_t, list_l, list_t, f1_ap, f2_ap, tru_b, tru_t, tru_l, tru_n, item_lstS, item_lstO, item_tupS, wO_map, wO_bind, isi_int_i, isi_int_b, isi_int_n, isi_int_t, isi_int_l, isi_int_s, isi_bool_i, isi_bool_b, isi_bool_n, isi_tl_t, isi_tl_l, isi_tl_i, isi_tl_n, isi_t_t, isi_t_l, isi_l_t, isi_l_l, slice_l, slice_t, shO_sh, blO_bl, blD_bl, intO_i, seq_l, seq_t, seq_f, ownL_l, two_ap, isSh_s, made_ok, toD_sh, toD_lst, mod_ii, mul_ii, div_ii, add_ll, add_tt, List.getElem?_cons_zero, List.getElem?_cons_succ, List.set_cons_zero, List.set_cons_succ, Option.join_some, Option.join_none, List.map_cons, List.map_nil, if_true, if_false, Bool.false_eq_true, reduceIte, Bool.true_or, Bool.or_true, Bool.false_or, Bool.true_and, Bool.and_true, Bool.false_and, Bool.and_false, true_and, and_true, Bool.not_true, Bool.not_false, decide_eq_true_eq]
    exact ⟨_, _, rfl⟩
  · rintro pre g post _ e ⟨a, b, rfl⟩
    have hk := hg pre g post e
    have hp : pre.length < gs.length := by rw [e]; simp
    simp only [wO_some, wO_none, wO_ite, wM_ok, wM_bad, wM_pure, wM_bind, wM_map, wM_iteB, wM_iteM, wM_nameB, wM_nameS, wM_nameV, wM_nameM, wM_asSh, wM_cons, wM_consO, wM_consT, wM_consB, wM_tup, wM_lst, wM_opS, wM_opN, wM_bl, wM_andT, wM_orT, wM_if, wM_andV, wM_orV, wM_tru, wM_neg, wM_part, wM_slice, wM_call, wM_isi, wM_op1, wM_bO, wM_chain, wM_sub, wM_subN, wM_has, wM_callF, wM_make, wM_newK, wM_newT, wM_get1, wM_get2, wM_field, wM_seq, wM_rngA1, wM_rngA2, wM_enumL, wM_enumT, wM_zipL, wM_zipT, wS_seq, wS_next, wS_brk, wS_cont, wS_bad, wS_if, wS_ret, wS_retN, wS_expr, wS_asg, wS_tg, wS_par, wS_app, wS_put, wS_fldX, wO_bName0, wO_bNameS, wO_bTup, wO_bNil, wO_bCons, wO_fillN, wO_fillS, wO_fillP, putBack_some, putBack_none, putBack_nil, slotSh_s, slotSh_sh, slotSh_ct, slotSh_rc, wipe_nil, wipe_cons, back_nil, back_cons, rest_s, rest_n, rest_sh, rest_ct, rest_rc, add_ii, sub_ii, cmp_ii, eq_ii, ne_ii, is_nn, is_tn, is_ln, is_in, is_bn, is_bb, isn_nn, isn_tn, isn_ln, isn_in, len_l, len_t, int_i, int_b, abs_i, tup_l, tup_t, list_l, list_t, f1_ap, f2_ap, tru_b, tru_t, tru_l, tru_n, item_lstS, item_lstO, item_tupS, wO_map, wO_bind, isi_int_i, isi_int_b, isi_int_n, isi_int_t, isi_int_l, isi_int_s, isi_bool_i, isi_bool_b, isi_bool_n, isi_tl_t, isi_tl_l, isi_tl_i, isi_tl_n, isi_t_t, isi_t_l, isi_l_t, isi_l_l, slice_l, slice_t, shO_sh, blO_bl, blD_bl, intO_i, seq_l, seq_t, seq_f, ownL_l, two_ap, isSh_s, made_ok, toD_sh, toD_lst, mod_ii, mul_ii, div_ii, add_ll, add_tt, List.getElem?_cons_zero, List.getElem?_cons_succ, List.set_cons_zero, List.set_cons_succ, Option.join_some, Option.join_none, List.map_cons, List.map_nil, if_true, if_false, Bool.false_eq_true, reduceIte, Bool.true_or, Bool.or_true, Bool.false_or, Bool.true_and, Bool.and_true, Bool.false_and, Bool.and_false, true_and, and_true, Bool.not_true, Bool.not_false, decide_eq_true_eq, gD]
    have hb2 := valsL_bit (gs := pre) hb
    have hle := valsL_len (gs := pre) (bs := bs)
    refine bit_w hb2 (by omega) (by omega) ?_
    simp only [wO_some, wO_none, wO_ite, wM_ok, wM_bad, wM_pure, wM_bind, wM_map, wM_iteB, wM_iteM, wM_nameB, wM_nameS, wM_nameV, wM_nameM, wM_asSh, wM_cons, wM_consO, wM_consT, wM_consB, wM_tup, wM_lst, wM_opS, wM_opN, wM_bl, wM_andT, wM_orT, wM_if, wM_andV, wM_orV, wM_tru, wM_neg, wM_part, wM_slice, wM_call, wM_isi, wM_op1, wM_bO, wM_chain, wM_sub, wM_subN, wM_has, wM_callF, wM_make, wM_newK, wM_newT, wM_get1, wM_get2, wM_field, wM_seq, wM_rngA1, wM_rngA2, wM_enumL, wM_enumT, wM_zipL, wM_zipT, wS_seq, wS_next, wS_brk, wS_cont, wS_bad, wS_if, wS_ret, wS_retN, wS_expr, wS_asg, wS_tg, wS_par, wS_app, wS_put, wS_fldX, wO_bName0, wO_bNameS, wO_bTup, wO_bNil, wO_bCons, wO_fillN, wO_fillS, wO_fillP, putBack_some, putBack_none, putBack_nil, slotSh_s, slotSh_sh, slotSh_ct, slotSh_rc, wipe_nil, wipe_cons, back_nil, back_cons, rest_s, rest_n, rest_sh, rest_ct, rest_rc, add_ii, sub_ii, cmp_ii, eq_ii, ne_ii, is_nn, is_tn, is_ln, is_in, is_bn, is_bb, isn_nn, isn_tn, isn_ln, isn_in, len_l, len_t, int_i, int_b, abs_i, tup_l, tup_t, list_l, list_t, f1_ap, f2_ap, tru_b, tru_t, tru_l, tru_n, item_lstS, item_lstO, item_tupS, wO_map, wO_bind, isi_int_i, isi_int_b, isi_int_n, isi_int_t, isi_int_l, isi_int_s, isi_bool_i, isi_bool_b, isi_bool_n, isi_tl_t, isi_tl_l, isi_tl_i, isi_tl_n, isi_t_t, isi_t_l, isi_l_t, isi_l_l, slice_l, slice_t, shO_sh, blO_bl, blD_bl, intO_i, seq_l, seq_t, seq_f, ownL_l, two_ap, isSh_s, made_ok, toD_sh, toD_lst, mod_ii, mul_ii, div_ii, add_ll, add_tt, List.getElem?_cons_zero, List.getElem?_cons_succ, List.set_cons_zero, List.set_cons_succ, Option.join_some, Option.join_none, List.map_cons, List.map_nil, if_true, if_false, Bool.false_eq_true, reduceIte, Bool.true_or, Bool.or_true, Bool.false_or, Bool.true_and, Bool.and_true, Bool.false_and, Bool.and_false, true_and, and_true, Bool.not_true, Bool.not_false, decide_eq_true_eq]
    refine bit_w hb2 (by omega) (by omega) ?_
    simp only [natD, wO_some, wO_none, wO_ite, wM_ok, wM_bad, wM_pure, wM_bind, wM_map, wM_iteB, wM_iteM, wM_nameB, wM_nameS, wM_nameV, wM_nameM, wM_asSh, wM_cons, wM_consO, wM_consT, wM_consB, wM_tup, wM_lst, wM_opS, wM_opN, wM_bl, wM_andT, wM_orT, wM_if, wM_andV, wM_orV, wM_tru, wM_neg, wM_part, wM_slice, wM_call, wM_isi, wM_op1, wM_bO, wM_chain, wM_sub, wM_subN, wM_has, wM_callF, wM_make, wM_newK, wM_newT, wM_get1, wM_get2, wM_field, wM_seq, wM_rngA1, wM_rngA2, wM_enumL, wM_enumT, wM_zipL, wM_zipT, wS_seq, wS_next, wS_brk, wS_cont, wS_bad, wS_if, wS_ret, wS_retN, wS_expr, wS_asg, wS_tg, wS_par, wS_app, wS_put, wS_fldX, wO_bName0, wO_bNameS, wO_bTup, wO_bNil, wO_bCons, wO_fillN, wO_fillS, wO_fillP, putBack_some, putBack_none, putBack_nil, slotSh_s, slotSh_sh, slotSh_ct, slotSh_rc, wipe_nil, wipe_cons, back_nil, back_cons, rest_s, rest_n, rest_sh, rest_ct, rest_rc, add_ii, sub_ii, cmp_ii, eq_ii, ne_ii, is_nn, is_tn, is_ln, is_in, is_bn, is_bb, isn_nn, isn_tn, isn_ln, isn_in, len_l, len_t, int_i, int_b, abs_i, tup_l, tup_t, list_l, list_t, f1_ap, f2_ap, tru_b, tru_t, tru_l, tru_n, item_lstS, item_lstO, item_tupS, wO_map, wO_bind, isi_int_i, isi_int_b, isi_int_n, isi_int_t, isi_int_l, isi_int_s, isi_bool_i, isi_bool_b, isi_bool_n, isi_tl_t, isi_tl_l, isi_tl_i, isi_tl_n, isi_t_t, isi_t_l, isi_l_t, isi_l_l, slice_l, slice_t, shO_sh, blO_bl, blD_bl, intO_i, seq_l, seq_t, seq_f, ownL_l, two_ap, isSh_s, made_ok, toD_sh, toD_lst, mod_ii, mul_ii, div_ii, add_ll, add_tt, List.getElem?_cons_zero, List.getElem?_cons_succ, List.set_cons_zero, List.set_cons_succ, Option.join_some, Option.join_none, List.map_cons, List.map_nil, if_true, if_false, Bool.false_eq_true, reduceIte, Bool.true_or, Bool.or_true, Bool.false_or, Bool.true_and, Bool.and_true, Bool.false_and, Bool.and_false, true_and, and_true, Bool.not_true, Bool.not_false, decide_eq_true_eq, List.length_map]
    have h1 := bitL_le hb2 g.1
    have h2 := bitL_le hb2 g.2
    refine ⟨⟨small512 (by omega) (by omega), small512 (by omega) (by omega)⟩, by show _ < 16777216; omega, ?_⟩
    have e3 : (valsL (pre ++ [g]) bs).map natD = (valsL pre bs).map natD ++ [.int ((bitL (valsL pre bs) g.1 : Int) * (bitL (valsL pre bs) g.2 : Int))] := by
      rw [show valsL (pre ++ [g]) bs = valsL pre bs ++ [bitL (valsL pre bs) g.1 * bitL (valsL pre bs) g.2] from valsG_snoc, List.map_append]
      simp only [List.map_cons, List.map_nil, natD, Int.natCast_mul]
    rw [e3]
    exact ⟨_, _, rfl⟩
  · rintro _ ⟨a, b, rfl⟩
    simp only [wO_some, wO_none, wO_ite, wM_ok, wM_bad, wM_pure, wM_bind, wM_map, wM_iteB, wM_iteM, wM_nameB, wM_nameS, wM_nameV, wM_nameM, wM_asSh, wM_cons, wM_consO, wM_consT, wM_consB, wM_tup, wM_lst, wM_opS, wM_opN, wM_bl, wM_andT, wM_orT, wM_if, wM_andV, wM_orV, wM_tru, wM_neg, wM_part, wM_slice, wM_call, wM_isi, wM_op1, wM_bO, wM_chain, wM_sub, wM_subN, wM_has, wM_callF, wM_make, wM_newK, wM_newT, wM_get1, wM_get2, wM_field, wM_seq, wM_rngA1, wM_rngA2, wM_enumL, wM_enumT, wM_zipL, wM_zipT, wS_seq, wS_next, wS_brk, wS_cont, wS_bad, wS_if, wS_ret, wS_retN, wS_expr, wS_asg, wS_tg, wS_par, wS_app, wS_put, wS_fldX, wO_bName0, wO_bNameS, wO_bTup, wO_bNil, wO_bCons, wO_fillN, wO_fillS, wO_fillP, putBack_some, putBack_none, putBack_nil, slotSh_s, slotSh_sh, slotSh_ct, slotSh_rc, wipe_nil, wipe_cons, back_nil, back_cons, rest_s, rest_n, rest_sh, rest_ct, rest_rc, add_ii, sub_ii, cmp_ii, eq_ii, ne_ii, is_nn, is_tn, is_ln, is_in, is_bn, is_bb, isn_nn, isn_tn, isn_ln, isn_in, len_l, len_t, int_i, int_b, abs_i, tup_l, tup_t, list_l, list_t, f1_ap, f2_ap, tru_b, tru_t, tru_l, tru_n, item_lstS, item_lstO, item_tupS, wO_map, wO_bind, isi_int_i, isi_int_b, isi_int_n, isi_int_t, isi_int_l, isi_int_s, isi_bool_i, isi_bool_b, isi_bool_n, isi_tl_t, isi_tl_l, isi_tl_i, isi_tl_n, isi_t_t, isi_t_l, isi_l_t, isi_l_l, slice_l, slice_t, shO_sh, blO_bl, blD_bl, intO_i, seq_l, seq_t, seq_f, ownL_l, two_ap, isSh_s, made_ok, toD_sh, toD_lst, mod_ii, mul_ii, div_ii, add_ll, add_tt, List.getElem?_cons_zero, List.getElem?_cons_succ, List.set_cons_zero, List.set_cons_succ, Option.join_some, Option.join_none, List.map_cons, List.map_nil, if_true, if_false, Bool.false_eq_true, reduceIte, Bool.true_or, Bool.or_true, Bool.false_or, Bool.true_and, Bool.and_true, Bool.false_and, Bool.and_false, true_and, and_true, Bool.not_true, Bool.not_false, decide_eq_true_eq]
    exact q
/-! ### what is drawn -/
/-- a pen with at most so many draws -/
def PenB (b : Nat) (p : O) : Prop := ∃ k, k ≤ b ∧ PenOk k p
theorem PenB.mono {b c : Nat} {p : O} (h : PenB b p) (hb : b ≤ c) : PenB c p := by
  obtain ⟨k, h1, h2⟩ := h
  exact ⟨k, by omega, h2⟩
theorem PenB.sl {b : Nat} {p : O} (h : PenB b p) {ρ : DL.Env} : slotSh (some p :: ρ) 0 = false := by
  obtain ⟨k, -, ⟨ns, a, d, c, f, rfl, -⟩⟩ := h
  rfl
theorem penB_w {ns : List Int} (hl : ns.length ≤ 63) (q : ∀ p fs, PenB 0 p → Q p fs) : wM (sem__law_pen [.sh (.fz (ns.map D.int))]) Q X := pen_w hl fun p fs h => q p fs ⟨0, by omega, h⟩
theorem drawB_w {b : Nat} {p : O} {many : Nat} (hp : PenB b p) (h1 : 1 ≤ many) (h2 : many ≤ 1000000) (hb : b ≤ 1000000) (q : ∀ r p', r < many → PenB (b + 1) p' → Q (.sh (natD r)) [some p', some (.sh (.int (many : Int)))]) :
    wM (sem__law_draw [p, .sh (.int (many : Int))]) Q X := by
  obtain ⟨k, hk, hp⟩ := hp
  exact drawN_w hp h1 h2 (by omega) fun r p' h h' => q r p' h ⟨k + 1, by omega, h'⟩
theorem pickB_w {b : Nat} {p o : O} {xs : List D} (hp : PenB b p) (ho : SeqO o xs) (h1 : xs ≠ []) (h2 : xs.length ≤ lim) (hb : b ≤ 1000000) (q : ∀ d p', d ∈ xs → PenB (b + 1) p' → Q (.sh d) [some p', some o]) :
    wM (sem__law_pick [p, o]) Q X := by
  obtain ⟨k, hk, hp⟩ := hp
  exact pick_w hp ho h1 h2 (by omega) fun d p' h h' => q d p' h ⟨k + 1, by omega, h'⟩
theorem drawn_gates_w {b : Nat} {p : O} {leaves many : Nat} (hp : PenB b p) (hl : leaves ≤ 500) (hm : many ≤ 500) (hb : b ≤ 900000)
    (q : ∀ gs p', GOk leaves gs → gs.length = many → PenB (b + 2 * many) p' → Q (.sh (.tup (gs.map gD))) [some p', some (.sh (natD leaves)), some (.sh (natD many))]) :
    wM (sem__law_drawn_gates [p, .sh (natD leaves), .sh (natD many)]) Q X := by
  refine sem_w [some p, some (.sh (natD leaves)), some (.sh (natD many)), none, none, none] rfl rfl ?_
  unfold d__law_drawn_gates
  simp only [wO_some, wO_none, wO_ite, wM_ok, wM_bad, wM_pure, wM_bind, wM_map, wM_iteB, wM_iteM, wM_nameB, wM_nameS, wM_nameV, wM_nameM, wM_asSh, wM_cons, wM_consO, wM_consT, wM_consB, wM_tup, wM_lst, wM_opS, wM_opN, wM_bl, wM_andT, wM_orT, wM_if, wM_andV, wM_orV, wM_tru, wM_neg, wM_part, wM_slice, wM_call, wM_isi, wM_op1, wM_bO, wM_chain, wM_sub, wM_subN, wM_has, wM_callF, wM_make, wM_newK, wM_newT, wM_get1, wM_get2, wM_field, wM_seq, wM_rngA1, wM_rngA2, wM_enumL, wM_enumT, wM_zipL, wM_zipT, wS_seq, wS_next, wS_brk, wS_cont, wS_bad, wS_if, wS_ret, wS_retN, wS_expr, wS_asg, wS_tg, wS_par, wS_app, wS_put, wS_fldX, wO_bName0, wO_bNameS, wO_bTup, wO_bNil, wO_bCons, wO_fillN, wO_fillS, wO_fillP, putBack_some, putBack_none, putBack_nil, slotSh_s, slotSh_sh, slotSh_ct, slotSh_rc, wipe_nil, wipe_cons, back_nil, back_cons, rest_s, rest_n, rest_sh, rest_ct, rest_rc, add_ii, sub_ii, cmp_ii, eq_ii, ne_ii, is_nn, is_tn, is_ln, is_in, is_bn, is_bb, isn_nn, isn_tn, isn_ln, isn_in, len_l, len_t, int_i, int_b, abs_i, tup_l, tup_t, list_l, list_t, f1_ap, f2_ap, tru_b, tru_t, tru_l, tru_n, item_lstS, item_lstO, item_tupS, wO_map, wO_bind, isi_int_i, isi_int_b, isi_int_n, isi_int_t, isi_int_l, isi_int_s, isi_bool_i, isi_bool_b, isi_bool_n, isi_tl_t, isi_tl_l, isi_tl_i, isi_tl_n, isi_t_t, isi_t_l, isi_l_t, isi_l_l, slice_l, slice_t, shO_sh, blO_bl, blD_bl, intO_i, seq_l, seq_t, seq_f, ownL_l, two_ap, isSh_s, made_ok, toD_sh, toD_lst, mod_ii, mul_ii, div_ii, add_ll, add_tt, List.getElem?_cons_zero, List.getElem?_cons_succ, List.set_cons_zero, List.set_cons_succ, Option.join_some, Option.join_none, List.map_cons, List.map_nil, if_true, if_false, Bool.false_eq_true, reduceIte, Bool.true_or, Bool.or_true, Bool.false_or, Bool.true_and, Bool.and_true, Bool.false_and, Bool.and_false, true_and, and_true, Bool.not_true, Bool.not_false, decide_eq_true_eq]
  refine ⟨by show 0 ≤ lim; decide, ?_⟩
  refine wS_forR 0 many (fun k ρ => ∃ p' gs x y, ρ = [some p', some (.sh (natD leaves)), some (.sh (natD many)), some (.lst (gs.map gD)), x, y] ∧ GOk leaves gs ∧ gs.length = k ∧ PenB (b + 2 * k) p') ?_ ?_ ?_
  · simp only [natD, wO_some, wO_none, wO_ite, wM_ok, wM_bad, wM_pure, wM_bind, wM_map, wM_iteB, wM_iteM, wM_nameB, wM_nameS, wM_nameV, wM_nameM, wM_asSh, wM_cons, wM_consO, wM_consT, wM_consB, wM_tup, wM_lst, wM_opS, wM_opN, wM_bl, wM_andT, wM_orT, wM_if, wM_andV, wM_orV, wM_tru, wM_neg, wM_part, wM_slice, wM_call, wM_isi, wM_op1, wM_bO, wM_chain, wM_sub, wM_subN, wM_has, wM_callF, wM_make, wM_newK, wM_newT, wM_get1, wM_get2, wM_field, wM_seq, wM_rngA1, wM_rngA2, wM_enumL, wM_enumT, wM_zipL, wM_zipT, wS_seq, wS_next, wS_brk, wS_cont, wS_bad, wS_if, wS_ret, wS_retN, wS_expr, wS_asg, wS_tg, wS_par, wS_app, wS_put, wS_fldX, wO_bName0, wO_bNameS, wO_bTup, wO_bNil, wO_bCons, wO_fillN, wO_fillS, wO_fillP, putBack_some, putBack_none, putBack_nil, slotSh_s, slotSh_sh, slotSh_ct, slotSh_rc, wipe_nil, wipe_cons, back_nil, back_cons, rest_s, rest_n, rest_sh, rest_ct, rest_rc, add_ii, sub_ii, cmp_ii, eq_ii, ne_ii, is_nn, is_tn, is_ln, is_in, is_bn, is_bb, isn_nn, isn_tn, isn_ln, isn_in, len_l, len_t, int_i, int_b, abs_i, tup_l, tup_t, list_l, list_t, f1_ap, f2_ap, tru_b, tru_t, tru_l, tru_n, item_lstS, item_lstO, item_tupS, wO_map, wO_bind, isi_int_i, isi_int_b, isi_int_n, isi_int_t, isi_int_l, isi_int_s, isi_bool_i, isi_bool_b, isi_bool_n, isi_tl_t, isi_tl_l, isi_tl_i, isi_tl_n, isi_t_t, isi_t_l, isi_l_t, isi_l_l, slice_l, slice_t, shO_sh, blO_bl, blD_bl, intO_i, seq_l, seq_t, seq_f, ownL_l, two_ap, isSh_s, made_ok, toD_sh, toD_lst, mod_ii, mul_ii, div_ii, add_ll, add_tt, List.getElem?_cons_zero, List.getElem?_cons_succ, List.set_cons_zero, List.set_cons_succ, Option.join_some, Option.join_none, List.map_cons, List.map_nil, if_true, if_false, Bool.false_eq_true, reduceIte, Bool.true_or, Bool.or_true, Bool.false_or, Bool.true_and, Bool.and_true, Bool.false_and, Bool.and_false, true_and, and_true, Bool.not_true, Bool.not_false, decide_eq_true_eq]
    refine ⟨inR_nat (by omega), by rw [Int.toNat_natCast], p, [], none, none, rfl, fun pre g post e => by simp at e, rfl, hp⟩
  · rintro k _ hk ⟨p', gs, x, y, rfl, hg, hlen, hp'⟩
    simp only [natD, wO_some, wO_none, wO_ite, wM_ok, wM_bad, wM_pure, wM_bind, wM_map, wM_iteB, wM_iteM, wM_nameB, wM_nameS, wM_nameV, wM_nameM, wM_asSh, wM_cons, wM_consO, wM_consT, wM_consB, wM_tup, wM_lst, wM_opS, wM_opN, wM_bl, wM_andT, wM_orT, wM_if, wM_andV, wM_orV, wM_tru, wM_neg, wM_part, wM_slice, wM_call, wM_isi, wM_op1, wM_bO, wM_chain, wM_sub, wM_subN, wM_has, wM_callF, wM_make, wM_newK, wM_newT, wM_get1, wM_get2, wM_field, wM_seq, wM_rngA1, wM_rngA2, wM_enumL, wM_enumT, wM_zipL, wM_zipT, wS_seq, wS_next, wS_brk, wS_cont, wS_bad, wS_if, wS_ret, wS_retN, wS_expr, wS_asg, wS_tg, wS_par, wS_app, wS_put, wS_fldX, wO_bName0, wO_bNameS, wO_bTup, wO_bNil, wO_bCons, wO_fillN, wO_fillS, wO_fillP, putBack_some, putBack_none, putBack_nil, slotSh_s, slotSh_sh, slotSh_ct, slotSh_rc, wipe_nil, wipe_cons, back_nil, back_cons, rest_s, rest_n, rest_sh, rest_ct, rest_rc, add_ii, sub_ii, cmp_ii, eq_ii, ne_ii, is_nn, is_tn, is_ln, is_in, is_bn, is_bb, isn_nn, isn_tn, isn_ln, isn_in, len_l, len_t, int_i, int_b, abs_i, tup_l, tup_t, list_l, list_t, f1_ap, f2_ap, tru_b, tru_t, tru_l, tru_n, item_lstS, item_lstO, item_tupS, wO_map, wO_bind, isi_int_i, isi_int_b, isi_int_n, isi_int_t, isi_int_l, isi_int_s, isi_bool_i, isi_bool_b, isi_bool_n, isi_tl_t, isi_tl_l, isi_tl_i, isi_tl_n, isi_t_t, isi_t_l, isi_l_t, isi_l_l, slice_l, slice_t, shO_sh, blO_bl, blD_bl, intO_i, seq_l, seq_t, seq_f, ownL_l, two_ap, isSh_s, made_ok, toD_sh, toD_lst, mod_ii, mul_ii, div_ii, add_ll, add_tt, List.getElem?_cons_zero, List.getElem?_cons_succ, List.set_cons_zero, List.set_cons_succ, Option.join_some, Option.join_none, List.map_cons, List.map_nil, if_true, if_false, Bool.false_eq_true, reduceIte, Bool.true_or, Bool.or_true, Bool.false_or, Bool.true_and, Bool.and_true, Bool.false_and, Bool.and_false, true_and, and_true, Bool.not_true, Bool.not_false, decide_eq_true_eq]
    refine ⟨⟨small512 (by omega) (by omega), small512 (by omega) (by omega)⟩, ?_⟩
    have em : 2 * (1 + (leaves : Int) + (0 + (k : Int))) = ((2 * (1 + leaves + k) : Nat) : Int) := by omega
    rw [em]
    refine drawB_w hp' (by omega) (by omega) (by omega) fun r1 p1 hr1 hp1 => ?_
    simp only [natD, wO_some, wO_none, wO_ite, wM_ok, wM_bad, wM_pure, wM_bind, wM_map, wM_iteB, wM_iteM, wM_nameB, wM_nameS, wM_nameV, wM_nameM, wM_asSh, wM_cons, wM_consO, wM_consT, wM_consB, wM_tup, wM_lst, wM_opS, wM_opN, wM_bl, wM_andT, wM_orT, wM_if, wM_andV, wM_orV, wM_tru, wM_neg, wM_part, wM_slice, wM_call, wM_isi, wM_op1, wM_bO, wM_chain, wM_sub, wM_subN, wM_has, wM_callF, wM_make, wM_newK, wM_newT, wM_get1, wM_get2, wM_field, wM_seq, wM_rngA1, wM_rngA2, wM_enumL, wM_enumT, wM_zipL, wM_zipT, wS_seq, wS_next, wS_brk, wS_cont, wS_bad, wS_if, wS_ret, wS_retN, wS_expr, wS_asg, wS_tg, wS_par, wS_app, wS_put, wS_fldX, wO_bName0, wO_bNameS, wO_bTup, wO_bNil, wO_bCons, wO_fillN, wO_fillS, wO_fillP, putBack_some, putBack_none, putBack_nil, slotSh_s, slotSh_sh, slotSh_ct, slotSh_rc, wipe_nil, wipe_cons, back_nil, back_cons, rest_s, rest_n, rest_sh, rest_ct, rest_rc, add_ii, sub_ii, cmp_ii, eq_ii, ne_ii, is_nn, is_tn, is_ln, is_in, is_bn, is_bb, isn_nn, isn_tn, isn_ln, isn_in, len_l, len_t, int_i, int_b, abs_i, tup_l, tup_t, list_l, list_t, f1_ap, f2_ap, tru_b, tru_t, tru_l, tru_n, item_lstS, item_lstO, item_tupS, wO_map, wO_bind, isi_int_i, isi_int_b, isi_int_n, isi_int_t, isi_int_l, isi_int_s, isi_bool_i, isi_bool_b, isi_bool_n, isi_tl_t, isi_tl_l, isi_tl_i, isi_tl_n, isi_t_t, isi_t_l, isi_l_t, isi_l_l, slice_l, slice_t, shO_sh, blO_bl, blD_bl, intO_i, seq_l, seq_t, seq_f, ownL_l, two_ap, isSh_s, made_ok, toD_sh, toD_lst, mod_ii, mul_ii, div_ii, add_ll, add_tt, List.getElem?_cons_zero, List.getElem?_cons_succ, List.set_cons_zero, List.set_cons_succ, Option.join_some, Option.join_none, List.map_cons, List.map_nil, if_true, if_false, Bool.false_eq_true, reduceIte, Bool.true_or, Bool.or_true, Bool.false_or, Bool.true_and, Bool.and_true, Bool.false_and, Bool.and_false, true_and, and_true, Bool.not_true, Bool.not_false, decide_eq_true_eq, hp'.sl]
    refine drawB_w hp1 (by omega) (by omega) (by omega) fun r2 p2 hr2 hp2 => ?_
    simp only [natD, wO_some, wO_none, wO_ite, wM_ok, wM_bad, wM_pure, wM_bind, wM_map, wM_iteB, wM_iteM, wM_nameB, wM_nameS, wM_nameV, wM_nameM, wM_asSh, wM_cons, wM_consO, wM_consT, wM_consB, wM_tup, wM_lst, wM_opS, wM_opN, wM_bl, wM_andT, wM_orT, wM_if, wM_andV, wM_orV, wM_tru, wM_neg, wM_part, wM_slice, wM_call, wM_isi, wM_op1, wM_bO, wM_chain, wM_sub, wM_subN, wM_has, wM_callF, wM_make, wM_newK, wM_newT, wM_get1, wM_get2, wM_field, wM_seq, wM_rngA1, wM_rngA2, wM_enumL, wM_enumT, wM_zipL, wM_zipT, wS_seq, wS_next, wS_brk, wS_cont, wS_bad, wS_if, wS_ret, wS_retN, wS_expr, wS_asg, wS_tg, wS_par, wS_app, wS_put, wS_fldX, wO_bName0, wO_bNameS, wO_bTup, wO_bNil, wO_bCons, wO_fillN, wO_fillS, wO_fillP, putBack_some, putBack_none, putBack_nil, slotSh_s, slotSh_sh, slotSh_ct, slotSh_rc, wipe_nil, wipe_cons, back_nil, back_cons, rest_s, rest_n, rest_sh, rest_ct, rest_rc, add_ii, sub_ii, cmp_ii, eq_ii, ne_ii, is_nn, is_tn, is_ln, is_in, is_bn, is_bb, isn_nn, isn_tn, isn_ln, isn_in, len_l, len_t, int_i, int_b, abs_i, tup_l, tup_t, list_l, list_t, f1_ap, f2_ap, tru_b, tru_t, tru_l, tru_n, item_lstS, item_lstO, item_tupS, wO_map, wO_bind, isi_int_i, isi_int_b, isi_int_n, isi_int_t, isi_int_l, isi_int_s, isi_bool_i, isi_bool_b, isi_bool_n, isi_tl_t, isi_tl_l, isi_tl_i, isi_tl_n, isi_t_t, isi_t_l, isi_l_t, isi_l_l, slice_l, slice_t, shO_sh, blO_bl, blD_bl, intO_i, seq_l, seq_t, seq_f, ownL_l, two_ap, isSh_s, made_ok, toD_sh, toD_lst, mod_ii, mul_ii, div_ii, add_ll, add_tt, List.getElem?_cons_zero, List.getElem?_cons_succ, List.set_cons_zero, List.set_cons_succ, Option.join_some, Option.join_none, List.map_cons, List.map_nil, if_true, if_false, Bool.false_eq_true, reduceIte, Bool.true_or, Bool.or_true, Bool.false_or, Bool.true_and, Bool.and_true, Bool.false_and, Bool.and_false, true_and, and_true, Bool.not_true, Bool.not_false, decide_eq_true_eq, hp1.sl, List.length_map]
    have e3 : gs.map gD ++ [D.tup [.int (r1 : Int), .int (r2 : Int)]] = (gs ++ [(r1, r2)]).map gD := by simp [gD, natD]
    rw [e3]
    exact ⟨by show 2 ≤ lim; decide, by show _ < 16777216; omega, p2, gs ++ [(r1, r2)], _, _, rfl, hg.snoc (by show r1 < _; omega) (by show r2 < _; omega), by simp [hlen], hp2.mono (by omega)⟩
  · rintro _ ⟨p', gs, x, y, rfl, hg, hlen, hp'⟩
    simp only [wO_some, wO_none, wO_ite, wM_ok, wM_bad, wM_pure, wM_bind, wM_map, wM_iteB, wM_iteM, wM_nameB, wM_nameS, wM_nameV, wM_nameM, wM_asSh, wM_cons, wM_consO, wM_consT, wM_consB, wM_tup, wM_lst, wM_opS, wM_opN, wM_bl, wM_andT, wM_orT, wM_if, wM_andV, wM_orV, wM_tru, wM_neg, wM_part, wM_slice, wM_call, wM_isi, wM_op1, wM_bO, wM_chain, wM_sub, wM_subN, wM_has, wM_callF, wM_make, wM_newK, wM_newT, wM_get1, wM_get2, wM_field, wM_seq, wM_rngA1, wM_rngA2, wM_enumL, wM_enumT, wM_zipL, wM_zipT, wS_seq, wS_next, wS_brk, wS_cont, wS_bad, wS_if, wS_ret, wS_retN, wS_expr, wS_asg, wS_tg, wS_par, wS_app, wS_put, wS_fldX, wO_bName0, wO_bNameS, wO_bTup, wO_bNil, wO_bCons, wO_fillN, wO_fillS, wO_fillP, putBack_some, putBack_none, putBack_nil, slotSh_s, slotSh_sh, slotSh_ct, slotSh_rc, wipe_nil, wipe_cons, back_nil, back_cons, rest_s, rest_n, rest_sh, rest_ct, rest_rc, add_ii, sub_ii, cmp_ii, eq_ii, ne_ii, is_nn, is_tn, is_ln, is_in, is_bn, is_bb, isn_nn, isn_tn, isn_ln, isn_in, len_l, len_t, int_i, int_b, abs_i, tup_l, tup_t, list_l, list_t, f1_ap, f2_ap, tru_b, tru_t, tru_l, tru_n, item_lstS, item_lstO, item_tupS, wO_map, wO_bind, isi_int_i, isi_int_b, isi_int_n, isi_int_t, isi_int_l, isi_int_s, isi_bool_i, isi_bool_b, isi_bool_n, isi_tl_t, isi_tl_l, isi_tl_i, isi_tl_n, isi_t_t, isi_t_l, isi_l_t, isi_l_l, slice_l, slice_t, shO_sh, blO_bl, blD_bl, intO_i, seq_l, seq_t, seq_f, ownL_l, two_ap, isSh_s, made_ok, toD_sh, toD_lst, mod_ii, mul_ii, div_ii, add_ll, add_tt, List.getElem?_cons_zero, List.getElem?_cons_succ, List.set_cons_zero, List.set_cons_succ, Option.join_some, Option.join_none, List.map_cons, List.map_nil, if_true, if_false, Bool.false_eq_true, reduceIte, Bool.true_or, Bool.or_true, Bool.false_or, Bool.true_and, Bool.and_true, Bool.false_and, Bool.and_false, true_and, and_true, Bool.not_true, Bool.not_false, decide_eq_true_eq]
    exact q gs p' hg hlen hp'
theorem literals_w {b : Nat} {p : O} {nodes many : Nat} (hp : PenB b p) (hl : nodes ≤ 1000) (h0 : 1 ≤ nodes) (hm : many ≤ 500) (hb : b ≤ 900000)
    (q : ∀ (ls : List Nat) p', (∀ l ∈ ls, l < 2 * nodes) → ls.length = many → PenB (b + many) p' → Q (.sh (.tup (ls.map natD))) [some p', some (.sh (natD nodes)), some (.sh (natD many))]) :
    wM (sem__law_literals [p, .sh (natD nodes), .sh (natD many)]) Q X := by
  refine sem_w [some p, some (.sh (natD nodes)), some (.sh (natD many)), none] rfl rfl ?_
  unfold d__law_literals
  simp only [wO_some, wO_none, wO_ite, wM_ok, wM_bad, wM_pure, wM_bind, wM_map, wM_iteB, wM_iteM, wM_nameB, wM_nameS, wM_nameV, wM_nameM, wM_asSh, wM_cons, wM_consO, wM_consT, wM_consB, wM_tup, wM_lst, wM_opS, wM_opN, wM_bl, wM_andT, wM_orT, wM_if, wM_andV, wM_orV, wM_tru, wM_neg, wM_part, wM_slice, wM_call, wM_isi, wM_op1, wM_bO, wM_chain, wM_sub, wM_subN, wM_has, wM_callF, wM_make, wM_newK, wM_newT, wM_get1, wM_get2, wM_field, wM_seq, wM_rngA1, wM_rngA2, wM_enumL, wM_enumT, wM_zipL, wM_zipT, wS_seq, wS_next, wS_brk, wS_cont, wS_bad, wS_if, wS_ret, wS_retN, wS_expr, wS_asg, wS_tg, wS_par, wS_app, wS_put, wS_fldX, wO_bName0, wO_bNameS, wO_bTup, wO_bNil, wO_bCons, wO_fillN, wO_fillS, wO_fillP, putBack_some, putBack_none, putBack_nil, slotSh_s, slotSh_sh, slotSh_ct, slotSh_rc, wipe_nil, wipe_cons, back_nil, back_cons, rest_s, rest_n, rest_sh, rest_ct, rest_rc, add_ii, sub_ii, cmp_ii, eq_ii, ne_ii, is_nn, is_tn, is_ln, is_in, is_bn, is_bb, isn_nn, isn_tn, isn_ln, isn_in, len_l, len_t, int_i, int_b, abs_i, tup_l, tup_t, list_l, list_t, f1_ap, f2_ap, tru_b, tru_t, tru_l, tru_n, item_lstS, item_lstO, item_tupS, wO_map, wO_bind, isi_int_i, isi_int_b, isi_int_n, isi_int_t, isi_int_l, isi_int_s, isi_bool_i, isi_bool_b, isi_bool_n, isi_tl_t, isi_tl_l, isi_tl_i, isi_tl_n, isi_t_t, isi_t_l, isi_l_t, isi_l_l, slice_l, slice_t, shO_sh, blO_bl, blD_bl, intO_i, seq_l, seq_t, seq_f, ownL_l, two_ap, isSh_s, made_ok, toD_sh, toD_lst, mod_ii, mul_ii, div_ii, add_ll, add_tt, List.getElem?_cons_zero, List.getElem?_cons_succ, List.set_cons_zero, List.set_cons_succ, Option.join_some, Option.join_none, List.map_cons, List.map_nil, if_true, if_false, Bool.false_eq_true, reduceIte, Bool.true_or, Bool.or_true, Bool.false_or, Bool.true_and, Bool.and_true, Bool.false_and, Bool.and_false, true_and, and_true, Bool.not_true, Bool.not_false, decide_eq_true_eq]
  refine wM_lcL (fun k : Nat => .int (0 + (k : Int))) (List.range many) (fun pre acc ρ => ∃ (p' : O) (ls : List Nat), ρ = [some p', some (.sh (natD nodes)), some (.sh (natD many)), none] ∧ acc = ls.map natD ∧ ls.length = pre.length ∧ (∀ l ∈ ls, l < 2 * nodes) ∧ PenB (b + pre.length) p') ?_ ?_
  · simp only [natD, wO_some, wO_none, wO_ite, wM_ok, wM_bad, wM_pure, wM_bind, wM_map, wM_iteB, wM_iteM, wM_nameB, wM_nameS, wM_nameV, wM_nameM, wM_asSh, wM_cons, wM_consO, wM_consT, wM_consB, wM_tup, wM_lst, wM_opS, wM_opN, wM_bl, wM_andT, wM_orT, wM_if, wM_andV, wM_orV, wM_tru, wM_neg, wM_part, wM_slice, wM_call, wM_isi, wM_op1, wM_bO, wM_chain, wM_sub, wM_subN, wM_has, wM_callF, wM_make, wM_newK, wM_newT, wM_get1, wM_get2, wM_field, wM_seq, wM_rngA1, wM_rngA2, wM_enumL, wM_enumT, wM_zipL, wM_zipT, wS_seq, wS_next, wS_brk, wS_cont, wS_bad, wS_if, wS_ret, wS_retN, wS_expr, wS_asg, wS_tg, wS_par, wS_app, wS_put, wS_fldX, wO_bName0, wO_bNameS, wO_bTup, wO_bNil, wO_bCons, wO_fillN, wO_fillS, wO_fillP, putBack_some, putBack_none, putBack_nil, slotSh_s, slotSh_sh, slotSh_ct, slotSh_rc, wipe_nil, wipe_cons, back_nil, back_cons, rest_s, rest_n, rest_sh, rest_ct, rest_rc, add_ii, sub_ii, cmp_ii, eq_ii, ne_ii, is_nn, is_tn, is_ln, is_in, is_bn, is_bb, isn_nn, isn_tn, isn_ln, isn_in, len_l, len_t, int_i, int_b, abs_i, tup_l, tup_t, list_l, list_t, f1_ap, f2_ap, tru_b, tru_t, tru_l, tru_n, item_lstS, item_lstO, item_tupS, wO_map, wO_bind, isi_int_i, isi_int_b, isi_int_n, isi_int_t, isi_int_l, isi_int_s, isi_bool_i, isi_bool_b, isi_bool_n, isi_tl_t, isi_tl_l, isi_tl_i, isi_tl_n, isi_t_t, isi_t_l, isi_l_t, isi_l_l, slice_l, slice_t, shO_sh, blO_bl, blD_bl, intO_i, seq_l, seq_t, seq_f, ownL_l, two_ap, isSh_s, made_ok, toD_sh, toD_lst, mod_ii, mul_ii, div_ii, add_ll, add_tt, List.getElem?_cons_zero, List.getElem?_cons_succ, List.set_cons_zero, List.set_cons_succ, Option.join_some, Option.join_none, List.map_cons, List.map_nil, if_true, if_false, Bool.false_eq_true, reduceIte, Bool.true_or, Bool.or_true, Bool.false_or, Bool.true_and, Bool.and_true, Bool.false_and, Bool.and_false, true_and, and_true, Bool.not_true, Bool.not_false, decide_eq_true_eq]
    refine ⟨inR_nat (by omega), by rw [Int.toNat_natCast]; rfl, ⟨p, [], rfl, rfl, rfl, fun l hl => by simp at hl, hp⟩, ?_⟩
    rintro acc ρ2 ⟨p', ls, rfl, rfl, h1, h2, h3⟩
    simp only [wO_some, wO_none, wO_ite, wM_ok, wM_bad, wM_pure, wM_bind, wM_map, wM_iteB, wM_iteM, wM_nameB, wM_nameS, wM_nameV, wM_nameM, wM_asSh, wM_cons, wM_consO, wM_consT, wM_consB, wM_tup, wM_lst, wM_opS, wM_opN, wM_bl, wM_andT, wM_orT, wM_if, wM_andV, wM_orV, wM_tru, wM_neg, wM_part, wM_slice, wM_call, wM_isi, wM_op1, wM_bO, wM_chain, wM_sub, wM_subN, wM_has, wM_callF, wM_make, wM_newK, wM_newT, wM_get1, wM_get2, wM_field, wM_seq, wM_rngA1, wM_rngA2, wM_enumL, wM_enumT, wM_zipL, wM_zipT, wS_seq, wS_next, wS_brk, wS_cont, wS_bad, wS_if, wS_ret, wS_retN, wS_expr, wS_asg, wS_tg, wS_par, wS_app, wS_put, wS_fldX, wO_bName0, wO_bNameS, wO_bTup, wO_bNil, wO_bCons, wO_fillN, wO_fillS, wO_fillP, putBack_some, putBack_none, putBack_nil, slotSh_s, slotSh_sh, slotSh_ct, slotSh_rc, wipe_nil, wipe_cons, back_nil, back_cons, rest_s, rest_n, rest_sh, rest_ct, rest_rc, add_ii, sub_ii, cmp_ii, eq_ii, ne_ii, is_nn, is_tn, is_ln, is_in, is_bn, is_bb, isn_nn, isn_tn, isn_ln, isn_in, len_l, len_t, int_i, int_b, abs_i, tup_l, tup_t, list_l, list_t, f1_ap, f2_ap, tru_b, tru_t, tru_l, tru_n, item_lstS, item_lstO, item_tupS, wO_map, wO_bind, isi_int_i, isi_int_b, isi_int_n, isi_int_t, isi_int_l, isi_int_s, isi_bool_i, isi_bool_b, isi_bool_n, isi_tl_t, isi_tl_l, isi_tl_i, isi_tl_n, isi_t_t, isi_t_l, isi_l_t, isi_l_l, slice_l, slice_t, shO_sh, blO_bl, blD_bl, intO_i, seq_l, seq_t, seq_f, ownL_l, two_ap, isSh_s, made_ok, toD_sh, toD_lst, mod_ii, mul_ii, div_ii, add_ll, add_tt, List.getElem?_cons_zero, List.getElem?_cons_succ, List.set_cons_zero, List.set_cons_succ, Option.join_some, Option.join_none, List.map_cons, List.map_nil, if_true, if_false, Bool.false_eq_true, reduceIte, Bool.true_or, Bool.or_true, Bool.false_or, Bool.true_and, Bool.and_true, Bool.false_and, Bool.and_false, true_and, and_true, Bool.not_true, Bool.not_false, decide_eq_true_eq]
    rw [List.length_range] at h1 h3
    exact q ls p' h2 h1 h3
  · rintro pre x post acc ρ e ⟨p', ls, rfl, rfl, h1, h2, h3⟩
    have hpl : pre.length < many := by
      have := congrArg List.length e
      simp at this
      omega
    simp only [natD, wO_some, wO_none, wO_ite, wM_ok, wM_bad, wM_pure, wM_bind, wM_map, wM_iteB, wM_iteM, wM_nameB, wM_nameS, wM_nameV, wM_nameM, wM_asSh, wM_cons, wM_consO, wM_consT, wM_consB, wM_tup, wM_lst, wM_opS, wM_opN, wM_bl, wM_andT, wM_orT, wM_if, wM_andV, wM_orV, wM_tru, wM_neg, wM_part, wM_slice, wM_call, wM_isi, wM_op1, wM_bO, wM_chain, wM_sub, wM_subN, wM_has, wM_callF, wM_make, wM_newK, wM_newT, wM_get1, wM_get2, wM_field, wM_seq, wM_rngA1, wM_rngA2, wM_enumL, wM_enumT, wM_zipL, wM_zipT, wS_seq, wS_next, wS_brk, wS_cont, wS_bad, wS_if, wS_ret, wS_retN, wS_expr, wS_asg, wS_tg, wS_par, wS_app, wS_put, wS_fldX, wO_bName0, wO_bNameS, wO_bTup, wO_bNil, wO_bCons, wO_fillN, wO_fillS, wO_fillP, putBack_some, putBack_none, putBack_nil, slotSh_s, slotSh_sh, slotSh_ct, slotSh_rc, wipe_nil, wipe_cons, back_nil, back_cons, rest_s, rest_n, rest_sh, rest_ct, rest_rc, add_ii, sub_ii, cmp_ii, eq_ii, ne_ii, is_nn, is_tn, is_ln, is_in, is_bn, is_bb, isn_nn, isn_tn, isn_ln, isn_in, len_l, len_t, int_i, int_b, abs_i, tup_l, tup_t, list_l, list_t, f1_ap, f2_ap, tru_b, tru_t, tru_l, tru_n, item_lstS, item_lstO, item_tupS, wO_map, wO_bind, isi_int_i, isi_int_b, isi_int_n, isi_int_t, isi_int_l, isi_int_s, isi_bool_i, isi_bool_b, isi_bool_n, isi_tl_t, isi_tl_l, isi_tl_i, isi_tl_n, isi_t_t, isi_t_l, isi_l_t, isi_l_l, slice_l, slice_t, shO_sh, blO_bl, blD_bl, intO_i, seq_l, seq_t, seq_f, ownL_l, two_ap, isSh_s, made_ok, toD_sh, toD_lst, mod_ii, mul_ii, div_ii, add_ll, add_tt, List.getElem?_cons_zero, List.getElem?_cons_succ, List.set_cons_zero, List.set_cons_succ, Option.join_some, Option.join_none, List.map_cons, List.map_nil, if_true, if_false, Bool.false_eq_true, reduceIte, Bool.true_or, Bool.or_true, Bool.false_or, Bool.true_and, Bool.and_true, Bool.false_and, Bool.and_false, true_and, and_true, Bool.not_true, Bool.not_false, decide_eq_true_eq, List.length_map]
    refine ⟨by show _ < 16777216; omega, ⟨small512 (by omega) (by omega), small512 (by omega) (by omega)⟩, ?_⟩
    have em : 2 * (nodes : Int) = ((2 * nodes : Nat) : Int) := by omega
    rw [em]
    refine drawB_w h3 (by omega) (by omega) (by omega) fun r p2 hr hp2 => ?_
    simp only [natD, wO_some, wO_none, wO_ite, wM_ok, wM_bad, wM_pure, wM_bind, wM_map, wM_iteB, wM_iteM, wM_nameB, wM_nameS, wM_nameV, wM_nameM, wM_asSh, wM_cons, wM_consO, wM_consT, wM_consB, wM_tup, wM_lst, wM_opS, wM_opN, wM_bl, wM_andT, wM_orT, wM_if, wM_andV, wM_orV, wM_tru, wM_neg, wM_part, wM_slice, wM_call, wM_isi, wM_op1, wM_bO, wM_chain, wM_sub, wM_subN, wM_has, wM_callF, wM_make, wM_newK, wM_newT, wM_get1, wM_get2, wM_field, wM_seq, wM_rngA1, wM_rngA2, wM_enumL, wM_enumT, wM_zipL, wM_zipT, wS_seq, wS_next, wS_brk, wS_cont, wS_bad, wS_if, wS_ret, wS_retN, wS_expr, wS_asg, wS_tg, wS_par, wS_app, wS_put, wS_fldX, wO_bName0, wO_bNameS, wO_bTup, wO_bNil, wO_bCons, wO_fillN, wO_fillS, wO_fillP, putBack_some, putBack_none, putBack_nil, slotSh_s, slotSh_sh, slotSh_ct, slotSh_rc, wipe_nil, wipe_cons, back_nil, back_cons, rest_s, rest_n, rest_sh, rest_ct, rest_rc, add_ii, sub_ii, cmp_ii, eq_ii, ne_ii, is_nn, is_tn, is_ln, is_in, is_bn, is_bb, isn_nn, isn_tn, isn_ln, isn_in, len_l, len_t, int_i, int_b, abs_i, tup_l, tup_t, list_l, list_t, f1_ap, f2_ap, tru_b, tru_t, tru_l, tru_n, item_lstS, item_lstO, item_tupS, wO_map, wO_bind, isi_int_i, isi_int_b, isi_int_n, isi_int_t, isi_int_l, isi_int_s, isi_bool_i, isi_bool_b, isi_bool_n, isi_tl_t, isi_tl_l, isi_tl_i, isi_tl_n, isi_t_t, isi_t_l, isi_l_t, isi_l_l, slice_l, slice_t, shO_sh, blO_bl, blD_bl, intO_i, seq_l, seq_t, seq_f, ownL_l, two_ap, isSh_s, made_ok, toD_sh, toD_lst, mod_ii, mul_ii, div_ii, add_ll, add_tt, List.getElem?_cons_zero, List.getElem?_cons_succ, List.set_cons_zero, List.set_cons_succ, Option.join_some, Option.join_none, List.map_cons, List.map_nil, if_true, if_false, Bool.false_eq_true, reduceIte, Bool.true_or, Bool.or_true, Bool.false_or, Bool.true_and, Bool.and_true, Bool.false_and, Bool.and_false, true_and, and_true, Bool.not_true, Bool.not_false, decide_eq_true_eq, h3.sl]
    refine ⟨p2, ls ++ [r], rfl, by simp [natD], by simp [h1], fun l hl => ?_, hp2.mono (by simp; omega)⟩
    rcases List.mem_append.mp hl with hl | hl
    · exact h2 l hl
    · simp at hl; omega
end
end DL

end

section
set_option Elab.async false
set_option linter.all false
set_option maxRecDepth 100000
/-! EG, part B: clauses, as their laws use them. -/
namespace DL
open PySem L2 RZ PyProof.Rows
/-! _law_own_clause(_law_literals_here): slots 0 _law_literals_here, 1 _law_nodes, 2 _law_literal, 3 _law_one, 4 _law_node -/
def d__law_own_clause : MS :=
  (sSeq (sIf (mOrT (mBl (mOpS (inO false) (mMap O.sh (mPure (.int 1))) (mNameB 0))) (mBl (mOpS neO (mLc [2] (mBind (mNameV 0) seqD) (bName 2) (mBl (mOpS (inO false) (mCallF sem__law_flip [some 2] (mHas 2 (mPure []))) (mNameB 0))) (mPure (.int 1))) (mMap (fun o => ((none : Option Nat), o)) (mLst (mPure [])))))) (sRet (mMap O.sh (mPure .non))) sNext)
  (sSeq (sAsg 1 (mCall (f1 sortO) (mConsB true (mMap (fun o => ((none : Option Nat), o)) (mLc [2] (mBind (mMap O.toD (mCall (f1 listDO) (mConsB true (mMap (fun o => ((none : Option Nat), o)) (mCall (f1 dictPO) (mConsB true (mMap (fun o => ((none : Option Nat), o)) (mLc [3] (mBind (mNameV 0) seqD) (bName 3) (mPure true) (mTup (mCons (mNameV 3) (mCons (mPure (.int 1)) (mPure [])))))) (mPure [])))) (mPure [])))) seqD) (bName 2) (mBl (mOpN 2 (liftB fun i j => decide (j < i)) (mMap (fun d => ((none : Option Nat), O.sh d)) (mPure (.int 1))))) (mMap O.toD (mOpN 2 (liftI divI) (mMap (fun d => ((none : Option Nat), O.sh d)) (mPure (.int 2))))))) (mPure []))))
  (sRet (mCall (f1 tupleD) (mConsB true (mMap (fun o => ((none : Option Nat), o)) (mLc [4] (mBind (mNameV 1) seqD) (bName 4) (mPure true) (mIf (mBl (mOpS (inO false) (mOpS (liftI mulI) (mMap O.sh (mPure (.int 2))) (mNameB 4)) (mNameB 0))) (mNameV 4) (mNeg (mNameV 4))))) (mPure []))))))
def sem__law_own_clause : Sem := semOf 5 1 [0] d__law_own_clause
/-! _law_own_clauses(_law_leaves, _law_gates): slots 0 _law_leaves, 1 _law_gates, 2 _law_found, 3 _law_k, 4 _law_one, 5 _law_other, 6 _law_gate, 7 _law_row, 8 _law_clause -/
def d__law_own_clauses : MS :=
  (sSeq (sAsg 2 (mLst (mPure [])))
  (sSeq (sFor (mBind (mCons (mNameV 1) (mPure [])) enumA) (bTup [(bName 3), (bTup [(bName 4), (bName 5)])])
  (sSeq (sAsg 6 (mOpS (liftI mulI) (mMap O.sh (mPure (.int 2))) (mMap (fun o => ((none : Option Nat), o)) (mOpS addD (mOpS addD (mMap O.sh (mPure (.int 1))) (mNameB 0)) (mNameB 3)))))
  (sFor (mBind (mMap O.toD (mLst (mCons (mTup (mCons (mNameV 4) (mCons (mMap O.toD (mOpN 6 addD (mMap (fun d => ((none : Option Nat), O.sh d)) (mPure (.int 1))))) (mPure [])))) (mCons (mTup (mCons (mNameV 5) (mCons (mMap O.toD (mOpN 6 addD (mMap (fun d => ((none : Option Nat), O.sh d)) (mPure (.int 1))))) (mPure [])))) (mCons (mTup (mCons (mMap O.toD (mCallF sem__law_flip [some 4] (mHas 4 (mPure [])))) (mCons (mMap O.toD (mCallF sem__law_flip [some 5] (mHas 5 (mPure [])))) (mCons (mNameV 6) (mPure []))))) (mPure [])))))) seqD) (bName 7)
  (sSeq (sAsg 8 (mCallF sem__law_own_clause [some 7] (mHas 7 (mPure []))))
  (sIf (mBl (mOpN 8 isnO (mMap (fun d => ((none : Option Nat), O.sh d)) (mPure .non)))) (sApp 2 (mNameV 8)) sNext)))))
  (sRet (mCall (f1 tupleD) (mConsB true (mNameB 2) (mPure []))))))
def sem__law_own_clauses : Sem := semOf 9 2 [0, 1] d__law_own_clauses
/-! clause_of(literals): slots 0 literals, 1 found, 2 literal, 3 node -/
def d_clause_of : MS :=
  (sSeq (sIf (mOrT (mBl (mOpS (inO false) (mMap O.sh (mPure (.int 1))) (mNameB 0))) (mTru (mMap (fun o => ((none : Option Nat), o)) (mCall (f1 anyD) (mConsB true (mMap (fun o => ((none : Option Nat), o)) (mLc [2] (mBind (mNameV 0) seqD) (bName 2) (mPure true) (mMap O.toD (mOpS (inO false) (mCallF sem_opposite [some 2] (mHas 2 (mPure []))) (mNameB 0))))) (mPure [])))))) (sRet (mMap O.sh (mPure .non))) sNext)
  (sSeq (sAsg 1 mNewK)
  (sSeq (sFor (mBind (mNameV 0) seqD) (bName 2)
  (sIf (mBl (mOpN 2 (liftB fun i j => decide (j < i)) (mMap (fun d => ((none : Option Nat), O.sh d)) (mPure (.int 1))))) (sPut 1 (mMap O.toD (mOpN 2 (liftI divI) (mMap (fun d => ((none : Option Nat), O.sh d)) (mPure (.int 2))))) (mIf (mBl (mOpS eqO (mOpN 2 (liftI modI) (mMap (fun d => ((none : Option Nat), O.sh d)) (mPure (.int 2)))) (mMap (fun d => ((none : Option Nat), O.sh d)) (mPure (.int 0))))) (mMap O.toD (mOpN 2 (liftI divI) (mMap (fun d => ((none : Option Nat), O.sh d)) (mPure (.int 2))))) (mNeg (mMap O.toD (mOpN 2 (liftI divI) (mMap (fun d => ((none : Option Nat), O.sh d)) (mPure (.int 2)))))))) sNext))
  (sRet (mCall (f1 tupleD) (mConsB true (mMap (fun o => ((none : Option Nat), o)) (mLc [3] (mBind (mMap O.toD (mCall (f1 sortDO) (mConsB true (mNameB 1) (mPure [])))) seqD) (bName 3) (mPure true) (mBind (mSubN 1 (mNameV 3)) asSh))) (mPure [])))))))
def sem_clause_of : Sem := semOf 4 1 [0] d_clause_of
/-! clauses_of(graph): slots 0 graph, 1 found, 2 k, 3 one, 4 other, 5 gate, 6 rows, 7 row, 8 clause -/
def d_clauses_of : MS :=
  (sSeq (sAsg 1 (mLst (mPure [])))
  (sSeq (sFor (mBind (mCons (mFldV tbl 0 "gates") (mPure [])) enumA) (bTup [(bName 2), (bTup [(bName 3), (bName 4)])])
  (sSeq (sAsg 5 (mOpS (liftI mulI) (mMap O.sh (mPure (.int 2))) (mMap (fun o => ((none : Option Nat), o)) (mOpS addD (mOpS addD (mMap O.sh (mPure (.int 1))) (mBind (mNameB 0) (fieldOf tbl "leaves"))) (mNameB 2)))))
  (sSeq (sAsg 6 (mLst (mCons (mTup (mCons (mNameV 3) (mCons (mMap O.toD (mOpN 5 addD (mMap (fun d => ((none : Option Nat), O.sh d)) (mPure (.int 1))))) (mPure [])))) (mCons (mTup (mCons (mNameV 4) (mCons (mMap O.toD (mOpN 5 addD (mMap (fun d => ((none : Option Nat), O.sh d)) (mPure (.int 1))))) (mPure [])))) (mCons (mTup (mCons (mMap O.toD (mCallF sem_opposite [some 3] (mHas 3 (mPure [])))) (mCons (mMap O.toD (mCallF sem_opposite [some 4] (mHas 4 (mPure [])))) (mCons (mNameV 5) (mPure []))))) (mPure []))))))
  (sAsg 1 (mOpN 1 addD (mMap (fun o => ((none : Option Nat), o)) (mLc [8] (mBind (mMap O.toD (mLc [7] (mBind (mNameV 6) seqD) (bName 7) (mPure true) (mMap O.toD (mCallF sem_clause_of [some 7] (mHas 7 (mPure [])))))) seqD) (bName 8) (mBl (mOpN 8 isnO (mMap (fun d => ((none : Option Nat), O.sh d)) (mPure .non)))) (mNameV 8))))))))
  (sRet (mCall (f1 tupleD) (mConsB true (mNameB 1) (mPure []))))))
def sem_clauses_of : Sem := semOf 9 1 [0] d_clauses_of
/-! satisfies(assignment, clause): slots 0 assignment, 1 clause, 2 number -/
def d_satisfies : MS :=
  (sRet (mCall (f1 anyD) (mConsB true (mMap (fun o => ((none : Option Nat), o)) (mLc [2] (mBind (mNameV 1) seqD) (bName 2) (mPure true) (mMap O.toD (mOpS eqO (mMap O.sh (mBind (mSubN 0 (mMap O.toD (mOpS (liftI subI) (mCall (f1 absD) (mConsB true (mNameB 2) (mPure []))) (mMap (fun d => ((none : Option Nat), O.sh d)) (mPure (.int 1)))))) asSh)) (mMap (fun o => ((none : Option Nat), o)) (mCall (f1 intD) (mConsB true (mMap (fun o => ((none : Option Nat), o)) (mOpN 2 (liftB fun i j => decide (j < i)) (mMap (fun d => ((none : Option Nat), O.sh d)) (mPure (.int 0))))) (mPure [])))))))) (mPure []))))
def sem_satisfies : Sem := semOf 3 2 [0, 1] d_satisfies
/-! _law_keeps(_law_bits, _law_clause): slots 0 _law_bits, 1 _law_clause, 2 _law_one -/
def d__law_keeps : MS :=
  (sRet (mOpS neO (mLc [2] (mBind (mNameV 1) seqD) (bName 2) (mBl (mOpS eqO (mMap O.sh (mBind (mSubN 0 (mMap O.toD (mOpS (liftI subI) (mCall (f1 absD) (mConsB true (mNameB 2) (mPure []))) (mMap (fun d => ((none : Option Nat), O.sh d)) (mPure (.int 1)))))) asSh)) (mMap (fun o => ((none : Option Nat), o)) (mCall (f1 intD) (mConsB true (mMap (fun o => ((none : Option Nat), o)) (mOpN 2 (liftB fun i j => decide (j < i)) (mMap (fun d => ((none : Option Nat), O.sh d)) (mPure (.int 0))))) (mPure [])))))) (mPure (.int 1))) (mMap (fun o => ((none : Option Nat), o)) (mLst (mPure [])))))
def sem__law_keeps : Sem := semOf 3 2 [0, 1] d__law_keeps
section
variable {Q : O → DL.Env → Prop} {X : D → DL.Env → Prop} {ρ : DL.Env}
/-! ### rows, as tuples or as lists -/
def RowD (d : D) (ls : List Nat) : Prop := d = .tup (ls.map natD) ∨ d = .lst (ls.map natD)
def RowI (d : D) (cs : List Int) : Prop := d = .tup (cs.map D.int) ∨ d = .lst (cs.map D.int)
theorem RowD.seq {d : D} {ls : List Nat} (h : RowD d ls) : seqO d = some (ls.map natD) := by rcases h with rfl | rfl <;> rfl
theorem RowI.seq {d : D} {ls : List Int} (h : RowI d ls) : seqO d = some (ls.map D.int) := by rcases h with rfl | rfl <;> rfl
theorem RowD.inn {d : D} {ls : List Nat} (h : RowD d ls) {i : Int} : inO false (.int i) d = some (.sh (.bl (decide (∃ l ∈ ls, (l : Int) = i)))) := by
  rcases h with rfl | rfl
  · exact in_natT
  · exact in_natL
theorem RowD.item {d : D} {ls : List Nat} (h : RowD d ls) {z : Option Nat} {j : Int} : itemOf (z, .fd (.sh d)) (.int j) = (atI (ls.map natD) j).map fun d => (none, .sh d) := by
  rcases h with rfl | rfl
  · exact item_tupS
  · exact item_lstS
/-- the same, also as a list that is owned -/
def RowO (o : O) (ls : List Nat) : Prop := o = .sh (.tup (ls.map natD)) ∨ o = .sh (.lst (ls.map natD)) ∨ o = .lst (ls.map natD)
theorem RowD.o {d : D} {ls : List Nat} (h : RowD d ls) : RowO (.sh d) ls := by
  rcases h with rfl | rfl
  · exact .inl rfl
  · exact .inr (.inl rfl)
theorem RowO.item {o : O} {ls : List Nat} (h : RowO o ls) {z : Option Nat} {j : Int} : itemOf (z, o) (.int j) = (atI (ls.map natD) j).map fun d => (none, .sh d) := by
  rcases h with rfl | rfl | rfl
  · exact item_tupS
  · exact item_lstS
  · exact item_lstO
/-! ### a clause under bits -/
def oneB (bs : List Nat) (c : Int) : Bool := bs.getD (c.natAbs - 1) 0 == (if 0 < c then 1 else 0)
def satB (bs : List Nat) (cs : List Int) : Bool := cs.any (oneB bs)
/-- the numbers of a clause over so many nodes -/
def ClOk (n : Nat) (cs : List Int) : Prop := ∀ c ∈ cs, 1 ≤ c.natAbs ∧ c.natAbs ≤ n
theorem oneB_eq {bs : List Nat} {c : Int} (h : 1 ≤ c.natAbs ∧ c.natAbs ≤ bs.length) (hb : bs.length ≤ 1000) {o : O} (hk : itemOf (some 0, o) (.int ((if c < 0 then -c else c) - 1)) = (atI (bs.map natD) ((if c < 0 then -c else c) - 1)).map fun d => (none, .sh d)) {q : Option Nat × O → Prop}
    (k : q (none, .sh (natD (bs.getD (c.natAbs - 1) 0)))) : wO (itemOf (some 0, o) (.int ((if c < 0 then -c else c) - 1))) q := by
  rw [hk, wO_map]
  have e : (if c < 0 then -c else c) - 1 = ((c.natAbs - 1 : Nat) : Int) := by split <;> omega
  rw [e]
  have hv : bs[c.natAbs - 1]? = some bs[c.natAbs - 1] := List.getElem?_eq_getElem (by omega)
  refine wO_atN (d := natD bs[c.natAbs - 1]) (by rw [List.getElem?_map, hv]; rfl) ?_
  rw [List.getD_eq_getElem?_getD, hv] at k
  exact k
theorem eq_one {v : Nat} {c : Int} : ((v : Int) == (if 0 < c then 1 else 0)) = (v == (if 0 < c then 1 else 0)) := by
  rw [Bool.eq_iff_iff]
  by_cases h : 0 < c
  · simp [h]; omega
  · simp [h]
theorem satisfies_w {a : O} {d : D} {bs : List Nat} {cs : List Int} (ha : RowO a bs) (hd : RowI d cs) (hb : bs.length ≤ 1000) (hc : ClOk bs.length cs) (hl : cs.length ≤ 1000) (q : Q (.sh (.bl (satB bs cs))) [some a, some (.sh d)]) :
    wM (sem_satisfies [a, .sh d]) Q X := by
  refine sem_w [some a, some (.sh d), none] rfl rfl ?_
  unfold d_satisfies
  simp only [wO_some, wO_none, wO_ite, wM_ok, wM_bad, wM_pure, wM_bind, wM_map, wM_iteB, wM_iteM, wM_nameB, wM_nameS, wM_nameV, wM_nameM, wM_asSh, wM_cons, wM_consO, wM_consT, wM_consB, wM_tup, wM_lst, wM_opS, wM_opN, wM_bl, wM_andT, wM_orT, wM_if, wM_andV, wM_orV, wM_tru, wM_neg, wM_part, wM_slice, wM_call, wM_isi, wM_op1, wM_bO, wM_chain, wM_sub, wM_subN, wM_has, wM_callF, wM_make, wM_newK, wM_newT, wM_get1, wM_get2, wM_field, wM_seq, wM_rngA1, wM_rngA2, wM_enumL, wM_enumT, wM_zipL, wM_zipT, wS_seq, wS_next, wS_brk, wS_cont, wS_bad, wS_if, wS_ret, wS_retN, wS_expr, wS_asg, wS_tg, wS_par, wS_app, wS_put, wS_fldX, wO_bName0, wO_bNameS, wO_bTup, wO_bNil, wO_bCons, wO_fillN, wO_fillS, wO_fillP, putBack_some, putBack_none, putBack_nil, slotSh_s, slotSh_sh, slotSh_ct, slotSh_rc, wipe_nil, wipe_cons, back_nil, back_cons, rest_s, rest_n, rest_sh, rest_ct, rest_rc, add_ii, sub_ii, cmp_ii, eq_ii, ne_ii, is_nn, is_tn, is_ln, is_in, is_bn, is_bb, isn_nn, isn_tn, isn_ln, isn_in, len_l, len_t, int_i, int_b, abs_i, tup_l, tup_t, list_l, list_t, f1_ap, f2_ap, tru_b, tru_t, tru_l, tru_n, item_lstS, item_lstO, item_tupS, wO_map, wO_bind, isi_int_i, isi_int_b, isi_int_n, isi_int_t, isi_int_l, isi_int_s, isi_bool_i, isi_bool_b, isi_bool_n, isi_tl_t, isi_tl_l, isi_tl_i, isi_tl_n, isi_t_t, isi_t_l, isi_l_t, isi_l_l, slice_l, slice_t, shO_sh, blO_bl, blD_bl, intO_i, seq_l, seq_t, seq_f, ownL_l, two_ap, isSh_s, made_ok, toD_sh, toD_lst, mod_ii, mul_ii, div_ii, add_ll, add_tt, List.getElem?_cons_zero, List.getElem?_cons_succ, List.set_cons_zero, List.set_cons_succ, Option.join_some, Option.join_none, List.map_cons, List.map_nil, if_true, if_false, Bool.false_eq_true, reduceIte, Bool.true_or, Bool.or_true, Bool.false_or, Bool.true_and, Bool.and_true, Bool.false_and, Bool.and_false, true_and, and_true, Bool.not_true, Bool.not_false, decide_eq_true_eq]
  refine wM_lcM D.int cs (fun c => .bl (oneB bs c)) ?_
  simp only [wO_some, wO_none, wO_ite, wM_ok, wM_bad, wM_pure, wM_bind, wM_map, wM_iteB, wM_iteM, wM_nameB, wM_nameS, wM_nameV, wM_nameM, wM_asSh, wM_cons, wM_consO, wM_consT, wM_consB, wM_tup, wM_lst, wM_opS, wM_opN, wM_bl, wM_andT, wM_orT, wM_if, wM_andV, wM_orV, wM_tru, wM_neg, wM_part, wM_slice, wM_call, wM_isi, wM_op1, wM_bO, wM_chain, wM_sub, wM_subN, wM_has, wM_callF, wM_make, wM_newK, wM_newT, wM_get1, wM_get2, wM_field, wM_seq, wM_rngA1, wM_rngA2, wM_enumL, wM_enumT, wM_zipL, wM_zipT, wS_seq, wS_next, wS_brk, wS_cont, wS_bad, wS_if, wS_ret, wS_retN, wS_expr, wS_asg, wS_tg, wS_par, wS_app, wS_put, wS_fldX, wO_bName0, wO_bNameS, wO_bTup, wO_bNil, wO_bCons, wO_fillN, wO_fillS, wO_fillP, putBack_some, putBack_none, putBack_nil, slotSh_s, slotSh_sh, slotSh_ct, slotSh_rc, wipe_nil, wipe_cons, back_nil, back_cons, rest_s, rest_n, rest_sh, rest_ct, rest_rc, add_ii, sub_ii, cmp_ii, eq_ii, ne_ii, is_nn, is_tn, is_ln, is_in, is_bn, is_bb, isn_nn, isn_tn, isn_ln, isn_in, len_l, len_t, int_i, int_b, abs_i, tup_l, tup_t, list_l, list_t, f1_ap, f2_ap, tru_b, tru_t, tru_l, tru_n, item_lstS, item_lstO, item_tupS, wO_map, wO_bind, isi_int_i, isi_int_b, isi_int_n, isi_int_t, isi_int_l, isi_int_s, isi_bool_i, isi_bool_b, isi_bool_n, isi_tl_t, isi_tl_l, isi_tl_i, isi_tl_n, isi_t_t, isi_t_l, isi_l_t, isi_l_l, slice_l, slice_t, shO_sh, blO_bl, blD_bl, intO_i, seq_l, seq_t, seq_f, ownL_l, two_ap, isSh_s, made_ok, toD_sh, toD_lst, mod_ii, mul_ii, div_ii, add_ll, add_tt, List.getElem?_cons_zero, List.getElem?_cons_succ, List.set_cons_zero, List.set_cons_succ, Option.join_some, Option.join_none, List.map_cons, List.map_nil, if_true, if_false, Bool.false_eq_true, reduceIte, Bool.true_or, Bool.or_true, Bool.false_or, Bool.true_and, Bool.and_true, Bool.false_and, Bool.and_false, true_and, and_true, Bool.not_true, Bool.not_false, decide_eq_true_eq, hd.seq]
  refine ⟨by show _ ≤ 16777216; omega, fun c hcm => ?_, ?_⟩
  · refine oneB_eq (hc c hcm) hb ha.item ?_
    simp only [natD, wO_some, wO_none, wO_ite, wM_ok, wM_bad, wM_pure, wM_bind, wM_map, wM_iteB, wM_iteM, wM_nameB, wM_nameS, wM_nameV, wM_nameM, wM_asSh, wM_cons, wM_consO, wM_consT, wM_consB, wM_tup, wM_lst, wM_opS, wM_opN, wM_bl, wM_andT, wM_orT, wM_if, wM_andV, wM_orV, wM_tru, wM_neg, wM_part, wM_slice, wM_call, wM_isi, wM_op1, wM_bO, wM_chain, wM_sub, wM_subN, wM_has, wM_callF, wM_make, wM_newK, wM_newT, wM_get1, wM_get2, wM_field, wM_seq, wM_rngA1, wM_rngA2, wM_enumL, wM_enumT, wM_zipL, wM_zipT, wS_seq, wS_next, wS_brk, wS_cont, wS_bad, wS_if, wS_ret, wS_retN, wS_expr, wS_asg, wS_tg, wS_par, wS_app, wS_put, wS_fldX, wO_bName0, wO_bNameS, wO_bTup, wO_bNil, wO_bCons, wO_fillN, wO_fillS, wO_fillP, putBack_some, putBack_none, putBack_nil, slotSh_s, slotSh_sh, slotSh_ct, slotSh_rc, wipe_nil, wipe_cons, back_nil, back_cons, rest_s, rest_n, rest_sh, rest_ct, rest_rc, add_ii, sub_ii, cmp_ii, eq_ii, ne_ii, is_nn, is_tn, is_ln, is_in, is_bn, is_bb, isn_nn, isn_tn, isn_ln, isn_in, len_l, len_t, int_i, int_b, abs_i, tup_l, tup_t, list_l, list_t, f1_ap, f2_ap, tru_b, tru_t, tru_l, tru_n, item_lstS, item_lstO, item_tupS, wO_map, wO_bind, isi_int_i, isi_int_b, isi_int_n, isi_int_t, isi_int_l, isi_int_s, isi_bool_i, isi_bool_b, isi_bool_n, isi_tl_t, isi_tl_l, isi_tl_i, isi_tl_n, isi_t_t, isi_t_l, isi_l_t, isi_l_l, slice_l, slice_t, shO_sh, blO_bl, blD_bl, intO_i, seq_l, seq_t, seq_f, ownL_l, two_ap, isSh_s, made_ok, toD_sh, toD_lst, mod_ii, mul_ii, div_ii, add_ll, add_tt, List.getElem?_cons_zero, List.getElem?_cons_succ, List.set_cons_zero, List.set_cons_succ, Option.join_some, Option.join_none, List.map_cons, List.map_nil, if_true, if_false, Bool.false_eq_true, reduceIte, Bool.true_or, Bool.or_true, Bool.false_or, Bool.true_and, Bool.and_true, Bool.false_and, Bool.and_false, true_and, and_true, Bool.not_true, Bool.not_false, decide_eq_true_eq]
    rw [eq_one]
    rfl
  · simp only [wO_some, wO_none, wO_ite, wM_ok, wM_bad, wM_pure, wM_bind, wM_map, wM_iteB, wM_iteM, wM_nameB, wM_nameS, wM_nameV, wM_nameM, wM_asSh, wM_cons, wM_consO, wM_consT, wM_consB, wM_tup, wM_lst, wM_opS, wM_opN, wM_bl, wM_andT, wM_orT, wM_if, wM_andV, wM_orV, wM_tru, wM_neg, wM_part, wM_slice, wM_call, wM_isi, wM_op1, wM_bO, wM_chain, wM_sub, wM_subN, wM_has, wM_callF, wM_make, wM_newK, wM_newT, wM_get1, wM_get2, wM_field, wM_seq, wM_rngA1, wM_rngA2, wM_enumL, wM_enumT, wM_zipL, wM_zipT, wS_seq, wS_next, wS_brk, wS_cont, wS_bad, wS_if, wS_ret, wS_retN, wS_expr, wS_asg, wS_tg, wS_par, wS_app, wS_put, wS_fldX, wO_bName0, wO_bNameS, wO_bTup, wO_bNil, wO_bCons, wO_fillN, wO_fillS, wO_fillP, putBack_some, putBack_none, putBack_nil, slotSh_s, slotSh_sh, slotSh_ct, slotSh_rc, wipe_nil, wipe_cons, back_nil, back_cons, rest_s, rest_n, rest_sh, rest_ct, rest_rc, add_ii, sub_ii, cmp_ii, eq_ii, ne_ii, is_nn, is_tn, is_ln, is_in, is_bn, is_bb, isn_nn, isn_tn, isn_ln, isn_in, len_l, len_t, int_i, int_b, abs_i, tup_l, tup_t, list_l, list_t, f1_ap, f2_ap, tru_b, tru_t, tru_l, tru_n, item_lstS, item_lstO, item_tupS, wO_map, wO_bind, isi_int_i, isi_int_b, isi_int_n, isi_int_t, isi_int_l, isi_int_s, isi_bool_i, isi_bool_b, isi_bool_n, isi_tl_t, isi_tl_l, isi_tl_i, isi_tl_n, isi_t_t, isi_t_l, isi_l_t, isi_l_l, slice_l, slice_t, shO_sh, blO_bl, blD_bl, intO_i, seq_l, seq_t, seq_f, ownL_l, two_ap, isSh_s, made_ok, toD_sh, toD_lst, mod_ii, mul_ii, div_ii, add_ll, add_tt, List.getElem?_cons_zero, List.getElem?_cons_succ, List.set_cons_zero, List.set_cons_succ, Option.join_some, Option.join_none, List.map_cons, List.map_nil, if_true, if_false, Bool.false_eq_true, reduceIte, Bool.true_or, Bool.or_true, Bool.false_or, Bool.true_and, Bool.and_true, Bool.false_and, Bool.and_false, true_and, and_true, Bool.not_true, Bool.not_false, decide_eq_true_eq, any_bls]
    exact q
theorem ne_filter {α : Type} {p : α → Bool} {d : D} : ∀ {xs : List α}, (!((xs.filter p).map fun _ => d).isEmpty) = xs.any p
  | [] => rfl
  | x :: xs => by
    rw [List.filter_cons, List.any_cons]
    cases h : p x with
    | true => rfl
    | false => simpa using ne_filter (p := p) (d := d) (xs := xs)
theorem keeps_w {a : O} {d : D} {bs : List Nat} {cs : List Int} (ha : RowO a bs) (hd : RowI d cs) (hb : bs.length ≤ 1000) (hc : ClOk bs.length cs) (hl : cs.length ≤ 1000) (q : Q (.sh (.bl (satB bs cs))) [some a, some (.sh d)]) :
    wM (sem__law_keeps [a, .sh d]) Q X := by
  refine sem_w [some a, some (.sh d), none] rfl rfl ?_
  unfold d__law_keeps
  simp only [wO_some, wO_none, wO_ite, wM_ok, wM_bad, wM_pure, wM_bind, wM_map, wM_iteB, wM_iteM, wM_nameB, wM_nameS, wM_nameV, wM_nameM, wM_asSh, wM_cons, wM_consO, wM_consT, wM_consB, wM_tup, wM_lst, wM_opS, wM_opN, wM_bl, wM_andT, wM_orT, wM_if, wM_andV, wM_orV, wM_tru, wM_neg, wM_part, wM_slice, wM_call, wM_isi, wM_op1, wM_bO, wM_chain, wM_sub, wM_subN, wM_has, wM_callF, wM_make, wM_newK, wM_newT, wM_get1, wM_get2, wM_field, wM_seq, wM_rngA1, wM_rngA2, wM_enumL, wM_enumT, wM_zipL, wM_zipT, wS_seq, wS_next, wS_brk, wS_cont, wS_bad, wS_if, wS_ret, wS_retN, wS_expr, wS_asg, wS_tg, wS_par, wS_app, wS_put, wS_fldX, wO_bName0, wO_bNameS, wO_bTup, wO_bNil, wO_bCons, wO_fillN, wO_fillS, wO_fillP, putBack_some, putBack_none, putBack_nil, slotSh_s, slotSh_sh, slotSh_ct, slotSh_rc, wipe_nil, wipe_cons, back_nil, back_cons, rest_s, rest_n, rest_sh, rest_ct, rest_rc, add_ii, sub_ii, cmp_ii, eq_ii, ne_ii, is_nn, is_tn, is_ln, is_in, is_bn, is_bb, isn_nn, isn_tn, isn_ln, isn_in, len_l, len_t, int_i, int_b, abs_i, tup_l, tup_t, list_l, list_t, f1_ap, f2_ap, tru_b, tru_t, tru_l, tru_n, item_lstS, item_lstO, item_tupS, wO_map, wO_bind, isi_int_i, isi_int_b, isi_int_n, isi_int_t, isi_int_l, isi_int_s, isi_bool_i, isi_bool_b, isi_bool_n, isi_tl_t, isi_tl_l, isi_tl_i, isi_tl_n, isi_t_t, isi_t_l, isi_l_t, isi_l_l, slice_l, slice_t, shO_sh, blO_bl, blD_bl, intO_i, seq_l, seq_t, seq_f, ownL_l, two_ap, isSh_s, made_ok, toD_sh, toD_lst, mod_ii, mul_ii, div_ii, add_ll, add_tt, List.getElem?_cons_zero, List.getElem?_cons_succ, List.set_cons_zero, List.set_cons_succ, Option.join_some, Option.join_none, List.map_cons, List.map_nil, if_true, if_false, Bool.false_eq_true, reduceIte, Bool.true_or, Bool.or_true, Bool.false_or, Bool.true_and, Bool.and_true, Bool.false_and, Bool.and_false, true_and, and_true, Bool.not_true, Bool.not_false, decide_eq_true_eq]
  refine wM_lcF D.int cs (oneB bs) (fun _ => .int 1) ?_
  simp only [wO_some, wO_none, wO_ite, wM_ok, wM_bad, wM_pure, wM_bind, wM_map, wM_iteB, wM_iteM, wM_nameB, wM_nameS, wM_nameV, wM_nameM, wM_asSh, wM_cons, wM_consO, wM_consT, wM_consB, wM_tup, wM_lst, wM_opS, wM_opN, wM_bl, wM_andT, wM_orT, wM_if, wM_andV, wM_orV, wM_tru, wM_neg, wM_part, wM_slice, wM_call, wM_isi, wM_op1, wM_bO, wM_chain, wM_sub, wM_subN, wM_has, wM_callF, wM_make, wM_newK, wM_newT, wM_get1, wM_get2, wM_field, wM_seq, wM_rngA1, wM_rngA2, wM_enumL, wM_enumT, wM_zipL, wM_zipT, wS_seq, wS_next, wS_brk, wS_cont, wS_bad, wS_if, wS_ret, wS_retN, wS_expr, wS_asg, wS_tg, wS_par, wS_app, wS_put, wS_fldX, wO_bName0, wO_bNameS, wO_bTup, wO_bNil, wO_bCons, wO_fillN, wO_fillS, wO_fillP, putBack_some, putBack_none, putBack_nil, slotSh_s, slotSh_sh, slotSh_ct, slotSh_rc, wipe_nil, wipe_cons, back_nil, back_cons, rest_s, rest_n, rest_sh, rest_ct, rest_rc, add_ii, sub_ii, cmp_ii, eq_ii, ne_ii, is_nn, is_tn, is_ln, is_in, is_bn, is_bb, isn_nn, isn_tn, isn_ln, isn_in, len_l, len_t, int_i, int_b, abs_i, tup_l, tup_t, list_l, list_t, f1_ap, f2_ap, tru_b, tru_t, tru_l, tru_n, item_lstS, item_lstO, item_tupS, wO_map, wO_bind, isi_int_i, isi_int_b, isi_int_n, isi_int_t, isi_int_l, isi_int_s, isi_bool_i, isi_bool_b, isi_bool_n, isi_tl_t, isi_tl_l, isi_tl_i, isi_tl_n, isi_t_t, isi_t_l, isi_l_t, isi_l_l, slice_l, slice_t, shO_sh, blO_bl, blD_bl, intO_i, seq_l, seq_t, seq_f, ownL_l, two_ap, isSh_s, made_ok, toD_sh, toD_lst, mod_ii, mul_ii, div_ii, add_ll, add_tt, List.getElem?_cons_zero, List.getElem?_cons_succ, List.set_cons_zero, List.set_cons_succ, Option.join_some, Option.join_none, List.map_cons, List.map_nil, if_true, if_false, Bool.false_eq_true, reduceIte, Bool.true_or, Bool.or_true, Bool.false_or, Bool.true_and, Bool.and_true, Bool.false_and, Bool.and_false, true_and, and_true, Bool.not_true, Bool.not_false, decide_eq_true_eq, hd.seq]
  refine ⟨by show _ ≤ 16777216; omega, fun c hcm => ?_, ?_⟩
  · refine oneB_eq (hc c hcm) hb ha.item ?_
    simp only [natD, wO_some, wO_none, wO_ite, wM_ok, wM_bad, wM_pure, wM_bind, wM_map, wM_iteB, wM_iteM, wM_nameB, wM_nameS, wM_nameV, wM_nameM, wM_asSh, wM_cons, wM_consO, wM_consT, wM_consB, wM_tup, wM_lst, wM_opS, wM_opN, wM_bl, wM_andT, wM_orT, wM_if, wM_andV, wM_orV, wM_tru, wM_neg, wM_part, wM_slice, wM_call, wM_isi, wM_op1, wM_bO, wM_chain, wM_sub, wM_subN, wM_has, wM_callF, wM_make, wM_newK, wM_newT, wM_get1, wM_get2, wM_field, wM_seq, wM_rngA1, wM_rngA2, wM_enumL, wM_enumT, wM_zipL, wM_zipT, wS_seq, wS_next, wS_brk, wS_cont, wS_bad, wS_if, wS_ret, wS_retN, wS_expr, wS_asg, wS_tg, wS_par, wS_app, wS_put, wS_fldX, wO_bName0, wO_bNameS, wO_bTup, wO_bNil, wO_bCons, wO_fillN, wO_fillS, wO_fillP, putBack_some, putBack_none, putBack_nil, slotSh_s, slotSh_sh, slotSh_ct, slotSh_rc, wipe_nil, wipe_cons, back_nil, back_cons, rest_s, rest_n, rest_sh, rest_ct, rest_rc, add_ii, sub_ii, cmp_ii, eq_ii, ne_ii, is_nn, is_tn, is_ln, is_in, is_bn, is_bb, isn_nn, isn_tn, isn_ln, isn_in, len_l, len_t, int_i, int_b, abs_i, tup_l, tup_t, list_l, list_t, f1_ap, f2_ap, tru_b, tru_t, tru_l, tru_n, item_lstS, item_lstO, item_tupS, wO_map, wO_bind, isi_int_i, isi_int_b, isi_int_n, isi_int_t, isi_int_l, isi_int_s, isi_bool_i, isi_bool_b, isi_bool_n, isi_tl_t, isi_tl_l, isi_tl_i, isi_tl_n, isi_t_t, isi_t_l, isi_l_t, isi_l_l, slice_l, slice_t, shO_sh, blO_bl, blD_bl, intO_i, seq_l, seq_t, seq_f, ownL_l, two_ap, isSh_s, made_ok, toD_sh, toD_lst, mod_ii, mul_ii, div_ii, add_ll, add_tt, List.getElem?_cons_zero, List.getElem?_cons_succ, List.set_cons_zero, List.set_cons_succ, Option.join_some, Option.join_none, List.map_cons, List.map_nil, if_true, if_false, Bool.false_eq_true, reduceIte, Bool.true_or, Bool.or_true, Bool.false_or, Bool.true_and, Bool.and_true, Bool.false_and, Bool.and_false, true_and, and_true, Bool.not_true, Bool.not_false, decide_eq_true_eq]
    rw [eq_one]
    exact ⟨rfl, fun _ => trivial, fun _ => trivial⟩
  · have h0 : (0 : Nat) ≤ lim := by show 0 ≤ 16777216; omega
    have hs : Sh 1 (.lst ((cs.filter (oneB bs)).map fun _ => D.int 1)) := sh_lst fun d hd => by
      obtain ⟨_, _, rfl⟩ := List.mem_map.mp hd
      exact sh_int
    simp only [wO_some, wO_none, wO_ite, wM_ok, wM_bad, wM_pure, wM_bind, wM_map, wM_iteB, wM_iteM, wM_nameB, wM_nameS, wM_nameV, wM_nameM, wM_asSh, wM_cons, wM_consO, wM_consT, wM_consB, wM_tup, wM_lst, wM_opS, wM_opN, wM_bl, wM_andT, wM_orT, wM_if, wM_andV, wM_orV, wM_tru, wM_neg, wM_part, wM_slice, wM_call, wM_isi, wM_op1, wM_bO, wM_chain, wM_sub, wM_subN, wM_has, wM_callF, wM_make, wM_newK, wM_newT, wM_get1, wM_get2, wM_field, wM_seq, wM_rngA1, wM_rngA2, wM_enumL, wM_enumT, wM_zipL, wM_zipT, wS_seq, wS_next, wS_brk, wS_cont, wS_bad, wS_if, wS_ret, wS_retN, wS_expr, wS_asg, wS_tg, wS_par, wS_app, wS_put, wS_fldX, wO_bName0, wO_bNameS, wO_bTup, wO_bNil, wO_bCons, wO_fillN, wO_fillS, wO_fillP, putBack_some, putBack_none, putBack_nil, slotSh_s, slotSh_sh, slotSh_ct, slotSh_rc, wipe_nil, wipe_cons, back_nil, back_cons, rest_s, rest_n, rest_sh, rest_ct, rest_rc, add_ii, sub_ii, cmp_ii, eq_ii, ne_ii, is_nn, is_tn, is_ln, is_in, is_bn, is_bb, isn_nn, isn_tn, isn_ln, isn_in, len_l, len_t, int_i, int_b, abs_i, tup_l, tup_t, list_l, list_t, f1_ap, f2_ap, tru_b, tru_t, tru_l, tru_n, item_lstS, item_lstO, item_tupS, wO_map, wO_bind, isi_int_i, isi_int_b, isi_int_n, isi_int_t, isi_int_l, isi_int_s, isi_bool_i, isi_bool_b, isi_bool_n, isi_tl_t, isi_tl_l, isi_tl_i, isi_tl_n, isi_t_t, isi_t_l, isi_l_t, isi_l_l, slice_l, slice_t, shO_sh, blO_bl, blD_bl, intO_i, seq_l, seq_t, seq_f, ownL_l, two_ap, isSh_s, made_ok, toD_sh, toD_lst, mod_ii, mul_ii, div_ii, add_ll, add_tt, List.getElem?_cons_zero, List.getElem?_cons_succ, List.set_cons_zero, List.set_cons_succ, Option.join_some, Option.join_none, List.map_cons, List.map_nil, if_true, if_false, Bool.false_eq_true, reduceIte, Bool.true_or, Bool.or_true, Bool.false_or, Bool.true_and, Bool.and_true, Bool.false_and, Bool.and_false, true_and, and_true, Bool.not_true, Bool.not_false, decide_eq_true_eq, List.length_nil, h0, toD_lst, neO_nilL hs (by decide)]
    rw [ne_filter]
    exact q
/-! ### the clause of a row of literals -/
theorem snoc_ind {α : Type} {P : List α → Prop} (h0 : P []) (h1 : ∀ xs x, P xs → P (xs ++ [x])) (xs : List α) : P xs := by
  have h : ∀ ys : List α, P ys.reverse := fun ys => by
    induction ys with
    | nil => exact h0
    | cons y ys ih => rw [List.reverse_cons]; exact h1 _ _ ih
  have := h xs.reverse
  rwa [List.reverse_reverse] at this
def conB (ls : List Nat) : Bool := decide (∃ l ∈ ls, (l : Int) = 1) || ls.any fun l => decide (∃ m ∈ ls, (m : Int) = ((flp l : Nat) : Int))
/-- each once, in the order of coming -/
def ddL (ls : List Nat) : List Nat := ls.foldl putKs []
def ndL (ls : List Nat) : List Int := ((ddL ls).filter fun l => decide (1 < l)).map fun l : Nat => (l : Int) / 2
def sgnL (ls : List Nat) (n : Int) : Int := if ∃ l ∈ ls, (l : Int) = 2 * n then n else -n
def clL (ls : List Nat) : Option (List Int) := if conB ls = true then none else some ((sortI (ndL ls)).map (sgnL ls))
def clO : Option (List Int) → O
  | none => .sh .non
  | some cs => .sh (.tup (cs.map D.int))
theorem ddL_snoc {ls : List Nat} {l : Nat} : ddL (ls ++ [l]) = putKs (ddL ls) l := by simp [ddL, List.foldl_append]
theorem ddL_mem {ls : List Nat} {l : Nat} : l ∈ ddL ls ↔ l ∈ ls := by
  induction ls using snoc_ind with
  | h0 => simp [ddL]
  | h1 ls x ih => rw [ddL_snoc, putKs_mem, ih]; simp
theorem ddL_nd {ls : List Nat} : (ddL ls).Nodup := by
  induction ls using snoc_ind with
  | h0 => simp [ddL]
  | h1 ls x ih => rw [ddL_snoc]; exact putKs_nd ih
theorem ddL_le {ls : List Nat} : (ddL ls).length ≤ ls.length := by
  induction ls using snoc_ind with
  | h0 => simp [ddL]
  | h1 ls x ih =>
    have := putKs_le (ks := ddL ls) (k := x)
    rw [ddL_snoc, List.length_append]
    simp only [List.length_cons, List.length_nil]
    omega
theorem ndL_mem {ls : List Nat} {i : Int} : i ∈ ndL ls ↔ ∃ l, (l ∈ ls ∧ 1 < l) ∧ (l : Int) / 2 = i := by
  unfold ndL
  simp only [List.mem_map, List.mem_filter, ddL_mem, decide_eq_true_eq]
theorem mergeO_fst {ps : List (Key × D)} : ∀ {acc : List Key × List D}, (mergeO acc ps).1 = (ps.map (·.1)).foldl putKs acc.1 := by
  induction ps with
  | nil => intro acc; rfl
  | cons p ps ih => intro acc; exact ih (acc := (putKs acc.1 p.1, putVs acc.1 acc.2 p.1 p.2))
def keyN (n : Nat) : Key := .inl (n : Int)
theorem keyN_inj {a b : Nat} (h : keyN a = keyN b) : a = b := by
  have h : (a : Int) = (b : Int) := Sum.inl.inj h
  omega
theorem putKs_map {ks : List Nat} {n : Nat} : putKs (ks.map keyN) (keyN n) = (putKs ks n).map keyN := by
  have e : keyN n ∈ ks.map keyN ↔ n ∈ ks := by
    constructor
    · intro h
      obtain ⟨m, hm, e⟩ := List.mem_map.mp h
      exact keyN_inj e ▸ hm
    · exact fun h => List.mem_map.mpr ⟨n, h, rfl⟩
  unfold putKs
  by_cases h : n ∈ ks
  · rw [if_pos h, if_pos (e.mpr h)]
  · rw [if_neg h, if_neg fun z => h (e.mp z), List.map_append]; rfl
theorem foldKs_map {ls : List Nat} : ∀ {ks : List Nat}, (ls.map keyN).foldl putKs (ks.map keyN) = (ls.foldl putKs ks).map keyN := by
  induction ls with
  | nil => intro ks; rfl
  | cons l ls ih =>
    intro ks
    rw [List.map_cons, List.foldl_cons, putKs_map, ih]
    rfl
theorem pairsO_nat : ∀ {ls : List Nat} {d : D}, pairsO (ls.map fun l : Nat => D.tup [.int (l : Int), d]) = some (ls.map fun l => (keyN l, d))
  | [], _ => rfl
  | l :: ls, d => by
    have e : keyD (.int (l : Int)) = some (keyN l) := rfl
    simp only [List.map_cons, pairsO, e, pairsO_nat (ls := ls) (d := d)]
theorem dict_keys {ls : List Nat} {d : D} : dictPO (.lst (ls.map fun l : Nat => D.tup [.int (l : Int), d])) = some (.fd (.ct (.dk ((ddL ls).map keyN) (mergeO ([], []) (ls.map fun l => (keyN l, d))).2))) := by
  unfold dictPO
  simp only [pairsO_nat]
  have e : (mergeO ([], []) (ls.map fun l => (keyN l, d))).1 = (ddL ls).map keyN := by
    rw [mergeO_fst, List.map_map]
    exact foldKs_map (ks := [])
  rw [e]
theorem list_keys {ks : List Nat} {vs : List D} : listDO (.dk (ks.map keyN) vs) = some (.lst (ks.map natD)) := by
  unfold listDO
  simp only [List.map_map]
  rfl
theorem intsD_map : ∀ (ns : List Int), intsD (ns.map D.int) = some ns
  | [] => rfl
  | n :: ns => by simp only [List.map_cons, intsD, intsD_map ns]
theorem sort_ints {ns : List Int} (h : ns.length ≤ 1000) : sortO (.lst (ns.map D.int)) = some (.lst ((sortI ns).map D.int)) := by
  unfold sortO
  simp only [intsD_map]
  rw [if_pos (by show _ ≤ 16777216; omega)]
  rfl
theorem sortI_len {ns : List Int} : (sortI ns).length = ns.length := (sortI_perm ns).length_eq
theorem own_clause_w {o : O} {d : D} {ls : List Nat} (ho : o.toD = d) (hd : RowD d ls) (hl : ls.length ≤ 1000) (hls : ∀ l ∈ ls, l < 1000000) (q : ∀ o' : O, o'.toD = d → Q (clO (clL ls)) [some o']) :
    wM (sem__law_own_clause [o]) Q X := by
  refine sem_w [some o, none, none, none, none] rfl rfl ?_
  unfold d__law_own_clause
  simp only [wO_some, wO_none, wO_ite, wM_ok, wM_bad, wM_pure, wM_bind, wM_map, wM_iteB, wM_iteM, wM_nameB, wM_nameS, wM_nameV, wM_nameM, wM_asSh, wM_cons, wM_consO, wM_consT, wM_consB, wM_tup, wM_lst, wM_opS, wM_opN, wM_bl, wM_andT, wM_orT, wM_if, wM_andV, wM_orV, wM_tru, wM_neg, wM_part, wM_slice, wM_call, wM_isi, wM_op1, wM_bO, wM_chain, wM_sub, wM_subN, wM_has, wM_callF, wM_make, wM_newK, wM_newT, wM_get1, wM_get2, wM_field, wM_seq, wM_rngA1, wM_rngA2, wM_enumL, wM_enumT, wM_zipL, wM_zipT, wS_seq, wS_next, wS_brk, wS_cont, wS_bad, wS_if, wS_ret, wS_retN, wS_expr, wS_asg, wS_tg, wS_par, wS_app, wS_put, wS_fldX, wO_bName0, wO_bNameS, wO_bTup, wO_bNil, wO_bCons, wO_fillN, wO_fillS, wO_fillP, putBack_some, putBack_none, putBack_nil, slotSh_s, slotSh_sh, slotSh_ct, slotSh_rc, wipe_nil, wipe_cons, back_nil, back_cons, rest_s, rest_n, rest_sh, rest_ct, rest_rc, add_ii, sub_ii, cmp_ii, eq_ii, ne_ii, is_nn, is_tn, is_ln, is_in, is_bn, is_bb, isn_nn, isn_tn, isn_ln, isn_in, len_l, len_t, int_i, int_b, abs_i, tup_l, tup_t, list_l, list_t, f1_ap, f2_ap, tru_b, tru_t, tru_l, tru_n, item_lstS, item_lstO, item_tupS, wO_map, wO_bind, isi_int_i, isi_int_b, isi_int_n, isi_int_t, isi_int_l, isi_int_s, isi_bool_i, isi_bool_b, isi_bool_n, isi_tl_t, isi_tl_l, isi_tl_i, isi_tl_n, isi_t_t, isi_t_l, isi_l_t, isi_l_l, slice_l, slice_t, shO_sh, blO_bl, blD_bl, intO_i, seq_l, seq_t, seq_f, ownL_l, two_ap, isSh_s, made_ok, toD_sh, toD_lst, mod_ii, mul_ii, div_ii, add_ll, add_tt, List.getElem?_cons_zero, List.getElem?_cons_succ, List.set_cons_zero, List.set_cons_succ, Option.join_some, Option.join_none, List.map_cons, List.map_nil, if_true, if_false, Bool.false_eq_true, reduceIte, Bool.true_or, Bool.or_true, Bool.false_or, Bool.true_and, Bool.and_true, Bool.false_and, Bool.and_false, true_and, and_true, Bool.not_true, Bool.not_false, decide_eq_true_eq, ho, hd.inn]
  by_cases h1 : ∃ l ∈ ls, (l : Int) = 1
  · rw [if_pos h1]
    have e : clL ls = none := by unfold clL conB; rw [decide_eq_true h1]; rfl
    rw [e] at q
    exact q o ho
  · rw [if_neg h1]
    refine wM_lcF (fun l : Nat => natD l) ls (fun l => decide (∃ m ∈ ls, (m : Int) = ((flp l : Nat) : Int))) (fun _ => .int 1) ?_
    simp only [wO_some, wO_none, wO_ite, wM_ok, wM_bad, wM_pure, wM_bind, wM_map, wM_iteB, wM_iteM, wM_nameB, wM_nameS, wM_nameV, wM_nameM, wM_asSh, wM_cons, wM_consO, wM_consT, wM_consB, wM_tup, wM_lst, wM_opS, wM_opN, wM_bl, wM_andT, wM_orT, wM_if, wM_andV, wM_orV, wM_tru, wM_neg, wM_part, wM_slice, wM_call, wM_isi, wM_op1, wM_bO, wM_chain, wM_sub, wM_subN, wM_has, wM_callF, wM_make, wM_newK, wM_newT, wM_get1, wM_get2, wM_field, wM_seq, wM_rngA1, wM_rngA2, wM_enumL, wM_enumT, wM_zipL, wM_zipT, wS_seq, wS_next, wS_brk, wS_cont, wS_bad, wS_if, wS_ret, wS_retN, wS_expr, wS_asg, wS_tg, wS_par, wS_app, wS_put, wS_fldX, wO_bName0, wO_bNameS, wO_bTup, wO_bNil, wO_bCons, wO_fillN, wO_fillS, wO_fillP, putBack_some, putBack_none, putBack_nil, slotSh_s, slotSh_sh, slotSh_ct, slotSh_rc, wipe_nil, wipe_cons, back_nil, back_cons, rest_s, rest_n, rest_sh, rest_ct, rest_rc, add_ii, sub_ii, cmp_ii, eq_ii, ne_ii, is_nn, is_tn, is_ln, is_in, is_bn, is_bb, isn_nn, isn_tn, isn_ln, isn_in, len_l, len_t, int_i, int_b, abs_i, tup_l, tup_t, list_l, list_t, f1_ap, f2_ap, tru_b, tru_t, tru_l, tru_n, item_lstS, item_lstO, item_tupS, wO_map, wO_bind, isi_int_i, isi_int_b, isi_int_n, isi_int_t, isi_int_l, isi_int_s, isi_bool_i, isi_bool_b, isi_bool_n, isi_tl_t, isi_tl_l, isi_tl_i, isi_tl_n, isi_t_t, isi_t_l, isi_l_t, isi_l_l, slice_l, slice_t, shO_sh, blO_bl, blD_bl, intO_i, seq_l, seq_t, seq_f, ownL_l, two_ap, isSh_s, made_ok, toD_sh, toD_lst, mod_ii, mul_ii, div_ii, add_ll, add_tt, List.getElem?_cons_zero, List.getElem?_cons_succ, List.set_cons_zero, List.set_cons_succ, Option.join_some, Option.join_none, List.map_cons, List.map_nil, if_true, if_false, Bool.false_eq_true, reduceIte, Bool.true_or, Bool.or_true, Bool.false_or, Bool.true_and, Bool.and_true, Bool.false_and, Bool.and_false, true_and, and_true, Bool.not_true, Bool.not_false, decide_eq_true_eq, ho, hd.seq]
    refine ⟨by show _ ≤ 16777216; omega, fun l hlm => ?_, ?_⟩
    · refine flip_w (hls l hlm) ?_
      simp only [natD, wO_some, wO_none, wO_ite, wM_ok, wM_bad, wM_pure, wM_bind, wM_map, wM_iteB, wM_iteM, wM_nameB, wM_nameS, wM_nameV, wM_nameM, wM_asSh, wM_cons, wM_consO, wM_consT, wM_consB, wM_tup, wM_lst, wM_opS, wM_opN, wM_bl, wM_andT, wM_orT, wM_if, wM_andV, wM_orV, wM_tru, wM_neg, wM_part, wM_slice, wM_call, wM_isi, wM_op1, wM_bO, wM_chain, wM_sub, wM_subN, wM_has, wM_callF, wM_make, wM_newK, wM_newT, wM_get1, wM_get2, wM_field, wM_seq, wM_rngA1, wM_rngA2, wM_enumL, wM_enumT, wM_zipL, wM_zipT, wS_seq, wS_next, wS_brk, wS_cont, wS_bad, wS_if, wS_ret, wS_retN, wS_expr, wS_asg, wS_tg, wS_par, wS_app, wS_put, wS_fldX, wO_bName0, wO_bNameS, wO_bTup, wO_bNil, wO_bCons, wO_fillN, wO_fillS, wO_fillP, putBack_some, putBack_none, putBack_nil, slotSh_s, slotSh_sh, slotSh_ct, slotSh_rc, wipe_nil, wipe_cons, back_nil, back_cons, rest_s, rest_n, rest_sh, rest_ct, rest_rc, add_ii, sub_ii, cmp_ii, eq_ii, ne_ii, is_nn, is_tn, is_ln, is_in, is_bn, is_bb, isn_nn, isn_tn, isn_ln, isn_in, len_l, len_t, int_i, int_b, abs_i, tup_l, tup_t, list_l, list_t, f1_ap, f2_ap, tru_b, tru_t, tru_l, tru_n, item_lstS, item_lstO, item_tupS, wO_map, wO_bind, isi_int_i, isi_int_b, isi_int_n, isi_int_t, isi_int_l, isi_int_s, isi_bool_i, isi_bool_b, isi_bool_n, isi_tl_t, isi_tl_l, isi_tl_i, isi_tl_n, isi_t_t, isi_t_l, isi_l_t, isi_l_l, slice_l, slice_t, shO_sh, blO_bl, blD_bl, intO_i, seq_l, seq_t, seq_f, ownL_l, two_ap, isSh_s, made_ok, toD_sh, toD_lst, mod_ii, mul_ii, div_ii, add_ll, add_tt, List.getElem?_cons_zero, List.getElem?_cons_succ, List.set_cons_zero, List.set_cons_succ, Option.join_some, Option.join_none, List.map_cons, List.map_nil, if_true, if_false, Bool.false_eq_true, reduceIte, Bool.true_or, Bool.or_true, Bool.false_or, Bool.true_and, Bool.and_true, Bool.false_and, Bool.and_false, true_and, and_true, Bool.not_true, Bool.not_false, decide_eq_true_eq, hd.inn]
      exact ⟨fun _ => trivial, fun _ => trivial⟩
    · have h0 : (0 : Nat) ≤ lim := by show 0 ≤ 16777216; omega
      have hs : Sh 1 (.lst ((ls.filter fun l => decide (∃ m ∈ ls, (m : Int) = ((flp l : Nat) : Int))).map fun _ => D.int 1)) := sh_lst fun d hd => by
        obtain ⟨_, _, rfl⟩ := List.mem_map.mp hd
        exact sh_int
      simp only [wO_some, wO_none, wO_ite, wM_ok, wM_bad, wM_pure, wM_bind, wM_map, wM_iteB, wM_iteM, wM_nameB, wM_nameS, wM_nameV, wM_nameM, wM_asSh, wM_cons, wM_consO, wM_consT, wM_consB, wM_tup, wM_lst, wM_opS, wM_opN, wM_bl, wM_andT, wM_orT, wM_if, wM_andV, wM_orV, wM_tru, wM_neg, wM_part, wM_slice, wM_call, wM_isi, wM_op1, wM_bO, wM_chain, wM_sub, wM_subN, wM_has, wM_callF, wM_make, wM_newK, wM_newT, wM_get1, wM_get2, wM_field, wM_seq, wM_rngA1, wM_rngA2, wM_enumL, wM_enumT, wM_zipL, wM_zipT, wS_seq, wS_next, wS_brk, wS_cont, wS_bad, wS_if, wS_ret, wS_retN, wS_expr, wS_asg, wS_tg, wS_par, wS_app, wS_put, wS_fldX, wO_bName0, wO_bNameS, wO_bTup, wO_bNil, wO_bCons, wO_fillN, wO_fillS, wO_fillP, putBack_some, putBack_none, putBack_nil, slotSh_s, slotSh_sh, slotSh_ct, slotSh_rc, wipe_nil, wipe_cons, back_nil, back_cons, rest_s, rest_n, rest_sh, rest_ct, rest_rc, add_ii, sub_ii, cmp_ii, eq_ii, ne_ii, is_nn, is_tn, is_ln, is_in, is_bn, is_bb, isn_nn, isn_tn, isn_ln, isn_in, len_l, len_t, int_i, int_b, abs_i, tup_l, tup_t, list_l, list_t, f1_ap, f2_ap, tru_b, tru_t, tru_l, tru_n, item_lstS, item_lstO, item_tupS, wO_map, wO_bind, isi_int_i, isi_int_b, isi_int_n, isi_int_t, isi_int_l, isi_int_s, isi_bool_i, isi_bool_b, isi_bool_n, isi_tl_t, isi_tl_l, isi_tl_i, isi_tl_n, isi_t_t, isi_t_l, isi_l_t, isi_l_l, slice_l, slice_t, shO_sh, blO_bl, blD_bl, intO_i, seq_l, seq_t, seq_f, ownL_l, two_ap, isSh_s, made_ok, toD_sh, toD_lst, mod_ii, mul_ii, div_ii, add_ll, add_tt, List.getElem?_cons_zero, List.getElem?_cons_succ, List.set_cons_zero, List.set_cons_succ, Option.join_some, Option.join_none, List.map_cons, List.map_nil, if_true, if_false, Bool.false_eq_true, reduceIte, Bool.true_or, Bool.or_true, Bool.false_or, Bool.true_and, Bool.and_true, Bool.false_and, Bool.and_false, true_and, and_true, Bool.not_true, Bool.not_false, decide_eq_true_eq, List.length_nil, h0, toD_lst, neO_nilL hs (by decide), ne_filter]
      cases hc : (ls.any fun l => decide (∃ m ∈ ls, (m : Int) = ((flp l : Nat) : Int))) with
      | true =>
        have e : clL ls = none := by unfold clL conB; rw [hc, Bool.or_true]; rfl
        rw [e] at q
        simp only [wO_some, wO_none, wO_ite, wM_ok, wM_bad, wM_pure, wM_bind, wM_map, wM_iteB, wM_iteM, wM_nameB, wM_nameS, wM_nameV, wM_nameM, wM_asSh, wM_cons, wM_consO, wM_consT, wM_consB, wM_tup, wM_lst, wM_opS, wM_opN, wM_bl, wM_andT, wM_orT, wM_if, wM_andV, wM_orV, wM_tru, wM_neg, wM_part, wM_slice, wM_call, wM_isi, wM_op1, wM_bO, wM_chain, wM_sub, wM_subN, wM_has, wM_callF, wM_make, wM_newK, wM_newT, wM_get1, wM_get2, wM_field, wM_seq, wM_rngA1, wM_rngA2, wM_enumL, wM_enumT, wM_zipL, wM_zipT, wS_seq, wS_next, wS_brk, wS_cont, wS_bad, wS_if, wS_ret, wS_retN, wS_expr, wS_asg, wS_tg, wS_par, wS_app, wS_put, wS_fldX, wO_bName0, wO_bNameS, wO_bTup, wO_bNil, wO_bCons, wO_fillN, wO_fillS, wO_fillP, putBack_some, putBack_none, putBack_nil, slotSh_s, slotSh_sh, slotSh_ct, slotSh_rc, wipe_nil, wipe_cons, back_nil, back_cons, rest_s, rest_n, rest_sh, rest_ct, rest_rc, add_ii, sub_ii, cmp_ii, eq_ii, ne_ii, is_nn, is_tn, is_ln, is_in, is_bn, is_bb, isn_nn, isn_tn, isn_ln, isn_in, len_l, len_t, int_i, int_b, abs_i, tup_l, tup_t, list_l, list_t, f1_ap, f2_ap, tru_b, tru_t, tru_l, tru_n, item_lstS, item_lstO, item_tupS, wO_map, wO_bind, isi_int_i, isi_int_b, isi_int_n, isi_int_t, isi_int_l, isi_int_s, isi_bool_i, isi_bool_b, isi_bool_n, isi_tl_t, isi_tl_l, isi_tl_i, isi_tl_n, isi_t_t, isi_t_l, isi_l_t, isi_l_l, slice_l, slice_t, shO_sh, blO_bl, blD_bl, intO_i, seq_l, seq_t, seq_f, ownL_l, two_ap, isSh_s, made_ok, toD_sh, toD_lst, mod_ii, mul_ii, div_ii, add_ll, add_tt, List.getElem?_cons_zero, List.getElem?_cons_succ, List.set_cons_zero, List.set_cons_succ, Option.join_some, Option.join_none, List.map_cons, List.map_nil, if_true, if_false, Bool.false_eq_true, reduceIte, Bool.true_or, Bool.or_true, Bool.false_or, Bool.true_and, Bool.and_true, Bool.false_and, Bool.and_false, true_and, and_true, Bool.not_true, Bool.not_false, decide_eq_true_eq]
        exact q (.sh d) rfl
      | false =>
        have e : clL ls = some ((sortI (ndL ls)).map (sgnL ls)) := by unfold clL conB; rw [hc, decide_eq_false h1]; rfl
        rw [e] at q
        simp only [wO_some, wO_none, wO_ite, wM_ok, wM_bad, wM_pure, wM_bind, wM_map, wM_iteB, wM_iteM, wM_nameB, wM_nameS, wM_nameV, wM_nameM, wM_asSh, wM_cons, wM_consO, wM_consT, wM_consB, wM_tup, wM_lst, wM_opS, wM_opN, wM_bl, wM_andT, wM_orT, wM_if, wM_andV, wM_orV, wM_tru, wM_neg, wM_part, wM_slice, wM_call, wM_isi, wM_op1, wM_bO, wM_chain, wM_sub, wM_subN, wM_has, wM_callF, wM_make, wM_newK, wM_newT, wM_get1, wM_get2, wM_field, wM_seq, wM_rngA1, wM_rngA2, wM_enumL, wM_enumT, wM_zipL, wM_zipT, wS_seq, wS_next, wS_brk, wS_cont, wS_bad, wS_if, wS_ret, wS_retN, wS_expr, wS_asg, wS_tg, wS_par, wS_app, wS_put, wS_fldX, wO_bName0, wO_bNameS, wO_bTup, wO_bNil, wO_bCons, wO_fillN, wO_fillS, wO_fillP, putBack_some, putBack_none, putBack_nil, slotSh_s, slotSh_sh, slotSh_ct, slotSh_rc, wipe_nil, wipe_cons, back_nil, back_cons, rest_s, rest_n, rest_sh, rest_ct, rest_rc, add_ii, sub_ii, cmp_ii, eq_ii, ne_ii, is_nn, is_tn, is_ln, is_in, is_bn, is_bb, isn_nn, isn_tn, isn_ln, isn_in, len_l, len_t, int_i, int_b, abs_i, tup_l, tup_t, list_l, list_t, f1_ap, f2_ap, tru_b, tru_t, tru_l, tru_n, item_lstS, item_lstO, item_tupS, wO_map, wO_bind, isi_int_i, isi_int_b, isi_int_n, isi_int_t, isi_int_l, isi_int_s, isi_bool_i, isi_bool_b, isi_bool_n, isi_tl_t, isi_tl_l, isi_tl_i, isi_tl_n, isi_t_t, isi_t_l, isi_l_t, isi_l_l, slice_l, slice_t, shO_sh, blO_bl, blD_bl, intO_i, seq_l, seq_t, seq_f, ownL_l, two_ap, isSh_s, made_ok, toD_sh, toD_lst, mod_ii, mul_ii, div_ii, add_ll, add_tt, List.getElem?_cons_zero, List.getElem?_cons_succ, List.set_cons_zero, List.set_cons_succ, Option.join_some, Option.join_none, List.map_cons, List.map_nil, if_true, if_false, Bool.false_eq_true, reduceIte, Bool.true_or, Bool.or_true, Bool.false_or, Bool.true_and, Bool.and_true, Bool.false_and, Bool.and_false, true_and, and_true, Bool.not_true, Bool.not_false, decide_eq_true_eq]
        refine wM_lcF natD (ddL ls) (fun l => decide (1 < l)) (fun l => .int ((l : Int) / 2)) ?_
        simp only [wO_some, wO_none, wO_ite, wM_ok, wM_bad, wM_pure, wM_bind, wM_map, wM_iteB, wM_iteM, wM_nameB, wM_nameS, wM_nameV, wM_nameM, wM_asSh, wM_cons, wM_consO, wM_consT, wM_consB, wM_tup, wM_lst, wM_opS, wM_opN, wM_bl, wM_andT, wM_orT, wM_if, wM_andV, wM_orV, wM_tru, wM_neg, wM_part, wM_slice, wM_call, wM_isi, wM_op1, wM_bO, wM_chain, wM_sub, wM_subN, wM_has, wM_callF, wM_make, wM_newK, wM_newT, wM_get1, wM_get2, wM_field, wM_seq, wM_rngA1, wM_rngA2, wM_enumL, wM_enumT, wM_zipL, wM_zipT, wS_seq, wS_next, wS_brk, wS_cont, wS_bad, wS_if, wS_ret, wS_retN, wS_expr, wS_asg, wS_tg, wS_par, wS_app, wS_put, wS_fldX, wO_bName0, wO_bNameS, wO_bTup, wO_bNil, wO_bCons, wO_fillN, wO_fillS, wO_fillP, putBack_some, putBack_none, putBack_nil, slotSh_s, slotSh_sh, slotSh_ct, slotSh_rc, wipe_nil, wipe_cons, back_nil, back_cons, rest_s, rest_n, rest_sh, rest_ct, rest_rc, add_ii, sub_ii, cmp_ii, eq_ii, ne_ii, is_nn, is_tn, is_ln, is_in, is_bn, is_bb, isn_nn, isn_tn, isn_ln, isn_in, len_l, len_t, int_i, int_b, abs_i, tup_l, tup_t, list_l, list_t, f1_ap, f2_ap, tru_b, tru_t, tru_l, tru_n, item_lstS, item_lstO, item_tupS, wO_map, wO_bind, isi_int_i, isi_int_b, isi_int_n, isi_int_t, isi_int_l, isi_int_s, isi_bool_i, isi_bool_b, isi_bool_n, isi_tl_t, isi_tl_l, isi_tl_i, isi_tl_n, isi_t_t, isi_t_l, isi_l_t, isi_l_l, slice_l, slice_t, shO_sh, blO_bl, blD_bl, intO_i, seq_l, seq_t, seq_f, ownL_l, two_ap, isSh_s, made_ok, toD_sh, toD_lst, mod_ii, mul_ii, div_ii, add_ll, add_tt, List.getElem?_cons_zero, List.getElem?_cons_succ, List.set_cons_zero, List.set_cons_succ, Option.join_some, Option.join_none, List.map_cons, List.map_nil, if_true, if_false, Bool.false_eq_true, reduceIte, Bool.true_or, Bool.or_true, Bool.false_or, Bool.true_and, Bool.and_true, Bool.false_and, Bool.and_false, true_and, and_true, Bool.not_true, Bool.not_false, decide_eq_true_eq]
        refine wM_lcM natD ls (fun l => D.tup [.int (l : Int), .int 1]) ?_
        simp only [natD, wO_some, wO_none, wO_ite, wM_ok, wM_bad, wM_pure, wM_bind, wM_map, wM_iteB, wM_iteM, wM_nameB, wM_nameS, wM_nameV, wM_nameM, wM_asSh, wM_cons, wM_consO, wM_consT, wM_consB, wM_tup, wM_lst, wM_opS, wM_opN, wM_bl, wM_andT, wM_orT, wM_if, wM_andV, wM_orV, wM_tru, wM_neg, wM_part, wM_slice, wM_call, wM_isi, wM_op1, wM_bO, wM_chain, wM_sub, wM_subN, wM_has, wM_callF, wM_make, wM_newK, wM_newT, wM_get1, wM_get2, wM_field, wM_seq, wM_rngA1, wM_rngA2, wM_enumL, wM_enumT, wM_zipL, wM_zipT, wS_seq, wS_next, wS_brk, wS_cont, wS_bad, wS_if, wS_ret, wS_retN, wS_expr, wS_asg, wS_tg, wS_par, wS_app, wS_put, wS_fldX, wO_bName0, wO_bNameS, wO_bTup, wO_bNil, wO_bCons, wO_fillN, wO_fillS, wO_fillP, putBack_some, putBack_none, putBack_nil, slotSh_s, slotSh_sh, slotSh_ct, slotSh_rc, wipe_nil, wipe_cons, back_nil, back_cons, rest_s, rest_n, rest_sh, rest_ct, rest_rc, add_ii, sub_ii, cmp_ii, eq_ii, ne_ii, is_nn, is_tn, is_ln, is_in, is_bn, is_bb, isn_nn, isn_tn, isn_ln, isn_in, len_l, len_t, int_i, int_b, abs_i, tup_l, tup_t, list_l, list_t, f1_ap, f2_ap, tru_b, tru_t, tru_l, tru_n, item_lstS, item_lstO, item_tupS, wO_map, wO_bind, isi_int_i, isi_int_b, isi_int_n, isi_int_t, isi_int_l, isi_int_s, isi_bool_i, isi_bool_b, isi_bool_n, isi_tl_t, isi_tl_l, isi_tl_i, isi_tl_n, isi_t_t, isi_t_l, isi_l_t, isi_l_l, slice_l, slice_t, shO_sh, blO_bl, blD_bl, intO_i, seq_l, seq_t, seq_f, ownL_l, two_ap, isSh_s, made_ok, toD_sh, toD_lst, mod_ii, mul_ii, div_ii, add_ll, add_tt, List.getElem?_cons_zero, List.getElem?_cons_succ, List.set_cons_zero, List.set_cons_succ, Option.join_some, Option.join_none, List.map_cons, List.map_nil, if_true, if_false, Bool.false_eq_true, reduceIte, Bool.true_or, Bool.or_true, Bool.false_or, Bool.true_and, Bool.and_true, Bool.false_and, Bool.and_false, true_and, and_true, Bool.not_true, Bool.not_false, decide_eq_true_eq, hd.seq]
        refine ⟨by show _ ≤ 16777216; omega, fun l hlm => by show 2 ≤ lim; decide, ?_⟩
        simp only [wO_some, wO_none, wO_ite, wM_ok, wM_bad, wM_pure, wM_bind, wM_map, wM_iteB, wM_iteM, wM_nameB, wM_nameS, wM_nameV, wM_nameM, wM_asSh, wM_cons, wM_consO, wM_consT, wM_consB, wM_tup, wM_lst, wM_opS, wM_opN, wM_bl, wM_andT, wM_orT, wM_if, wM_andV, wM_orV, wM_tru, wM_neg, wM_part, wM_slice, wM_call, wM_isi, wM_op1, wM_bO, wM_chain, wM_sub, wM_subN, wM_has, wM_callF, wM_make, wM_newK, wM_newT, wM_get1, wM_get2, wM_field, wM_seq, wM_rngA1, wM_rngA2, wM_enumL, wM_enumT, wM_zipL, wM_zipT, wS_seq, wS_next, wS_brk, wS_cont, wS_bad, wS_if, wS_ret, wS_retN, wS_expr, wS_asg, wS_tg, wS_par, wS_app, wS_put, wS_fldX, wO_bName0, wO_bNameS, wO_bTup, wO_bNil, wO_bCons, wO_fillN, wO_fillS, wO_fillP, putBack_some, putBack_none, putBack_nil, slotSh_s, slotSh_sh, slotSh_ct, slotSh_rc, wipe_nil, wipe_cons, back_nil, back_cons, rest_s, rest_n, rest_sh, rest_ct, rest_rc, add_ii, sub_ii, cmp_ii, eq_ii, ne_ii, is_nn, is_tn, is_ln, is_in, is_bn, is_bb, isn_nn, isn_tn, isn_ln, isn_in, len_l, len_t, int_i, int_b, abs_i, tup_l, tup_t, list_l, list_t, f1_ap, f2_ap, tru_b, tru_t, tru_l, tru_n, item_lstS, item_lstO, item_tupS, wO_map, wO_bind, isi_int_i, isi_int_b, isi_int_n, isi_int_t, isi_int_l, isi_int_s, isi_bool_i, isi_bool_b, isi_bool_n, isi_tl_t, isi_tl_l, isi_tl_i, isi_tl_n, isi_t_t, isi_t_l, isi_l_t, isi_l_l, slice_l, slice_t, shO_sh, blO_bl, blD_bl, intO_i, seq_l, seq_t, seq_f, ownL_l, two_ap, isSh_s, made_ok, toD_sh, toD_lst, mod_ii, mul_ii, div_ii, add_ll, add_tt, List.getElem?_cons_zero, List.getElem?_cons_succ, List.set_cons_zero, List.set_cons_succ, Option.join_some, Option.join_none, List.map_cons, List.map_nil, if_true, if_false, Bool.false_eq_true, reduceIte, Bool.true_or, Bool.or_true, Bool.false_or, Bool.true_and, Bool.and_true, Bool.false_and, Bool.and_false, true_and, and_true, Bool.not_true, Bool.not_false, decide_eq_true_eq, dict_keys, list_keys, toD_ct, Ct.toD]
        have hle := ddL_le (ls := ls)
        refine ⟨by show _ ≤ 16777216; omega, fun l hlm => ?_, ?_⟩
        · refine ⟨?_, fun _ => ⟨by decide, small512 (by omega) (by omega)⟩, fun _ => trivial⟩
          rw [Bool.eq_iff_iff, decide_eq_true_eq, decide_eq_true_eq]
          omega
        · have hn : (ndL ls).length ≤ 1000 := by
            have := List.length_filter_le (fun l => decide (1 < l)) (ddL ls)
            unfold ndL
            rw [List.length_map]
            omega
          have e2 : ((ddL ls).filter fun l => decide (1 < l)).map (fun l : Nat => D.int ((l : Int) / 2)) = (ndL ls).map D.int := by unfold ndL; rw [List.map_map]; rfl
          simp only [wO_some, wO_none, wO_ite, wM_ok, wM_bad, wM_pure, wM_bind, wM_map, wM_iteB, wM_iteM, wM_nameB, wM_nameS, wM_nameV, wM_nameM, wM_asSh, wM_cons, wM_consO, wM_consT, wM_consB, wM_tup, wM_lst, wM_opS, wM_opN, wM_bl, wM_andT, wM_orT, wM_if, wM_andV, wM_orV, wM_tru, wM_neg, wM_part, wM_slice, wM_call, wM_isi, wM_op1, wM_bO, wM_chain, wM_sub, wM_subN, wM_has, wM_callF, wM_make, wM_newK, wM_newT, wM_get1, wM_get2, wM_field, wM_seq, wM_rngA1, wM_rngA2, wM_enumL, wM_enumT, wM_zipL, wM_zipT, wS_seq, wS_next, wS_brk, wS_cont, wS_bad, wS_if, wS_ret, wS_retN, wS_expr, wS_asg, wS_tg, wS_par, wS_app, wS_put, wS_fldX, wO_bName0, wO_bNameS, wO_bTup, wO_bNil, wO_bCons, wO_fillN, wO_fillS, wO_fillP, putBack_some, putBack_none, putBack_nil, slotSh_s, slotSh_sh, slotSh_ct, slotSh_rc, wipe_nil, wipe_cons, back_nil, back_cons, rest_s, rest_n, rest_sh, rest_ct, rest_rc, add_ii, sub_ii, cmp_ii, eq_ii, ne_ii, is_nn, is_tn, is_ln, is_in, is_bn, is_bb, isn_nn, isn_tn, isn_ln, isn_in, len_l, len_t, int_i, int_b, abs_i, tup_l, tup_t, list_l, list_t, f1_ap, f2_ap, tru_b, tru_t, tru_l, tru_n, item_lstS, item_lstO, item_tupS, wO_map, wO_bind, isi_int_i, isi_int_b, isi_int_n, isi_int_t, isi_int_l, isi_int_s, isi_bool_i, isi_bool_b, isi_bool_n, isi_tl_t, isi_tl_l, isi_tl_i, isi_tl_n, isi_t_t, isi_t_l, isi_l_t, isi_l_l, slice_l, slice_t, shO_sh, blO_bl, blD_bl, intO_i, seq_l, seq_t, seq_f, ownL_l, two_ap, isSh_s, made_ok, toD_sh, toD_lst, mod_ii, mul_ii, div_ii, add_ll, add_tt, List.getElem?_cons_zero, List.getElem?_cons_succ, List.set_cons_zero, List.set_cons_succ, Option.join_some, Option.join_none, List.map_cons, List.map_nil, if_true, if_false, Bool.false_eq_true, reduceIte, Bool.true_or, Bool.or_true, Bool.false_or, Bool.true_and, Bool.and_true, Bool.false_and, Bool.and_false, true_and, and_true, Bool.not_true, Bool.not_false, decide_eq_true_eq, e2, sort_ints hn]
          refine wM_lcM D.int (sortI (ndL ls)) (fun n => .int (sgnL ls n)) ?_
          simp only [wO_some, wO_none, wO_ite, wM_ok, wM_bad, wM_pure, wM_bind, wM_map, wM_iteB, wM_iteM, wM_nameB, wM_nameS, wM_nameV, wM_nameM, wM_asSh, wM_cons, wM_consO, wM_consT, wM_consB, wM_tup, wM_lst, wM_opS, wM_opN, wM_bl, wM_andT, wM_orT, wM_if, wM_andV, wM_orV, wM_tru, wM_neg, wM_part, wM_slice, wM_call, wM_isi, wM_op1, wM_bO, wM_chain, wM_sub, wM_subN, wM_has, wM_callF, wM_make, wM_newK, wM_newT, wM_get1, wM_get2, wM_field, wM_seq, wM_rngA1, wM_rngA2, wM_enumL, wM_enumT, wM_zipL, wM_zipT, wS_seq, wS_next, wS_brk, wS_cont, wS_bad, wS_if, wS_ret, wS_retN, wS_expr, wS_asg, wS_tg, wS_par, wS_app, wS_put, wS_fldX, wO_bName0, wO_bNameS, wO_bTup, wO_bNil, wO_bCons, wO_fillN, wO_fillS, wO_fillP, putBack_some, putBack_none, putBack_nil, slotSh_s, slotSh_sh, slotSh_ct, slotSh_rc, wipe_nil, wipe_cons, back_nil, back_cons, rest_s, rest_n, rest_sh, rest_ct, rest_rc, add_ii, sub_ii, cmp_ii, eq_ii, ne_ii, is_nn, is_tn, is_ln, is_in, is_bn, is_bb, isn_nn, isn_tn, isn_ln, isn_in, len_l, len_t, int_i, int_b, abs_i, tup_l, tup_t, list_l, list_t, f1_ap, f2_ap, tru_b, tru_t, tru_l, tru_n, item_lstS, item_lstO, item_tupS, wO_map, wO_bind, isi_int_i, isi_int_b, isi_int_n, isi_int_t, isi_int_l, isi_int_s, isi_bool_i, isi_bool_b, isi_bool_n, isi_tl_t, isi_tl_l, isi_tl_i, isi_tl_n, isi_t_t, isi_t_l, isi_l_t, isi_l_l, slice_l, slice_t, shO_sh, blO_bl, blD_bl, intO_i, seq_l, seq_t, seq_f, ownL_l, two_ap, isSh_s, made_ok, toD_sh, toD_lst, mod_ii, mul_ii, div_ii, add_ll, add_tt, List.getElem?_cons_zero, List.getElem?_cons_succ, List.set_cons_zero, List.set_cons_succ, Option.join_some, Option.join_none, List.map_cons, List.map_nil, if_true, if_false, Bool.false_eq_true, reduceIte, Bool.true_or, Bool.or_true, Bool.false_or, Bool.true_and, Bool.and_true, Bool.false_and, Bool.and_false, true_and, and_true, Bool.not_true, Bool.not_false, decide_eq_true_eq, hd.inn]
          refine ⟨by rw [sortI_len]; show _ ≤ 16777216; omega, fun x hx => ?_, ?_⟩
          · obtain ⟨l, hl2, rfl⟩ := ndL_mem.mp ((sortI_perm _).mem_iff.mp hx)
            have hl3 := hls l hl2.1
            refine ⟨⟨small512 (by omega) (by omega), small512 (by omega) (by omega)⟩, ?_⟩
            unfold sgnL
            split <;> rfl
          · have e3 : (sortI (ndL ls)).map (fun n => D.int (sgnL ls n)) = ((sortI (ndL ls)).map (sgnL ls)).map D.int := by rw [List.map_map]; rfl
            rw [e3]
            exact q (.sh d) rfl
/-! as the program makes it: a dict of nodes -/
theorem item_dk {z : Option Nat} {ks : List Key} {vs : List D} {i : Int} : itemOf (z, .fd (.ct (.dk ks vs))) (.int i) = (lookK ks vs (.inl i)).map fun d => (none, .sh d) := by
  unfold itemOf
  have e : keyD (.int i) = some (.inl i) := rfl
  simp only [e]
  cases lookK ks vs (.inl i) <;> rfl
theorem put_dk {ks : List Key} {vs : List D} {i : Int} {d : D} : putO (.fd (.ct (.dk ks vs))) (.int i) d = if ks.length < lim then some (.fd (.ct (.dk (putKs ks (.inl i)) (putVs ks vs (.inl i) d)))) else none := rfl
theorem sort_dk {ns : List Int} {vs : List D} (h : ns.length < 64) : sortDO (.dk (ns.map Sum.inl) vs) = some (.lst ((sortI ns).map D.int)) := by
  unfold sortDO
  simp only [intKs_map]
  rw [if_pos h]
  rfl
def litI (l : Nat) : Int := if (l : Int) % 2 = 0 then (l : Int) / 2 else -((l : Int) / 2)
theorem con_out {ls : List Nat} (h : conB ls = false) {l m : Nat} (hl : l ∈ ls) (hm : m ∈ ls) : m ≠ 1 ∧ m ≠ flp l := by
  unfold conB at h
  obtain ⟨h1, h2⟩ := Bool.or_eq_false_iff.mp h
  constructor
  · rintro rfl
    exact of_decide_eq_false h1 ⟨1, hm, rfl⟩
  · rintro rfl
    have := List.any_eq_false.mp h2 l hl
    exact this (decide_eq_true ⟨_, hm, rfl⟩)
/-- what the dict holds after so many literals -/
structure DctOk (pre : List Nat) (ks : List Key) (vs : List D) : Prop where
  len : ks.length = vs.length
  key : ks = (((ddL pre).filter fun l => decide (1 < l)).map fun l : Nat => (l : Int) / 2).map Sum.inl
  val : ∀ l ∈ pre, 1 < l → lookK ks vs (.inl ((l : Int) / 2)) = some (.int (litI l))
theorem DctOk.skip {pre : List Nat} {ks : List Key} {vs : List D} {l : Nat} (h : DctOk pre ks vs) (hl : ¬ 1 < l) : DctOk (pre ++ [l]) ks vs where
  len := h.len
  key := by
    rw [h.key, ddL_snoc]
    unfold putKs
    split
    · rfl
    · rw [List.filter_append]
      simp [hl]
  val := fun m hm h1 => by
    rcases List.mem_append.mp hm with hm | hm
    · exact h.val m hm h1
    · simp at hm; subst hm; exact absurd h1 hl
theorem DctOk.put {ls pre : List Nat} {ks : List Key} {vs : List D} {l : Nat} (hc : conB ls = false) (hp : ∀ m ∈ pre, m ∈ ls) (hm : l ∈ ls) (h : DctOk pre ks vs) (hl : 1 < l) : DctOk (pre ++ [l]) (putKs ks (.inl ((l : Int) / 2))) (putVs ks vs (.inl ((l : Int) / 2)) (.int (litI l))) := by
  have uni : ∀ m ∈ ls, (m : Int) / 2 = (l : Int) / 2 → m = l := fun m hml e => by
    have h1 := (con_out hc hm hml).2
    have h2 := (con_out hc hml hm).2
    unfold flp at h1 h2
    split at h1 <;> split at h2 <;> omega
  constructor
  · exact putVs_len h.len
  · rw [h.key, ddL_snoc]
    by_cases hd : l ∈ ddL pre
    · have hk : (Sum.inl ((l : Int) / 2) : Key) ∈ (((ddL pre).filter fun l => decide (1 < l)).map fun l : Nat => (l : Int) / 2).map Sum.inl := List.mem_map.mpr ⟨_, List.mem_map.mpr ⟨l, List.mem_filter.mpr ⟨hd, decide_eq_true hl⟩, rfl⟩, rfl⟩
      unfold putKs
      rw [if_pos hk, if_pos hd]
    · have hk : ¬ (Sum.inl ((l : Int) / 2) : Key) ∈ (((ddL pre).filter fun l => decide (1 < l)).map fun l : Nat => (l : Int) / 2).map Sum.inl := by
        intro z
        obtain ⟨i, hi, e⟩ := List.mem_map.mp z
        obtain ⟨m, hm2, e2⟩ := List.mem_map.mp hi
        have hm3 := (List.mem_filter.mp hm2).1
        have e3 : (m : Int) / 2 = (l : Int) / 2 := by rw [e2]; exact Sum.inl.inj e
        exact hd (uni m (hp m (ddL_mem.mp hm3)) e3 ▸ hm3)
      unfold putKs
      rw [if_neg hk, if_neg hd, List.filter_append, List.map_append, List.map_append]
      simp [hl]
  · intro m hm2 h1
    rw [lookK_put h.len]
    by_cases e : (m : Int) / 2 = (l : Int) / 2
    · have hml : m ∈ ls := by
        rcases List.mem_append.mp hm2 with z | z
        · exact hp m z
        · simp at z; subst z; exact hm
      rw [if_pos (by rw [e]), uni m hml e]
    · rw [if_neg fun z => e (Sum.inl.inj z).symm]
      rcases List.mem_append.mp hm2 with z | z
      · exact h.val m z h1
      · simp at z; subst z; exact absurd rfl e
theorem clause_of_w {d : D} {ls : List Nat} (hd : RowD d ls) (hl : ls.length ≤ 60) (hls : ∀ l ∈ ls, l < 1000000) (q : Q (clO (clL ls)) [some (.sh d)]) :
    wM (sem_clause_of [.sh d]) Q X := by
  refine sem_w [some (.sh d), none, none, none] rfl rfl ?_
  unfold d_clause_of
  simp only [wO_some, wO_none, wO_ite, wM_ok, wM_bad, wM_pure, wM_bind, wM_map, wM_iteB, wM_iteM, wM_nameB, wM_nameS, wM_nameV, wM_nameM, wM_asSh, wM_cons, wM_consO, wM_consT, wM_consB, wM_tup, wM_lst, wM_opS, wM_opN, wM_bl, wM_andT, wM_orT, wM_if, wM_andV, wM_orV, wM_tru, wM_neg, wM_part, wM_slice, wM_call, wM_isi, wM_op1, wM_bO, wM_chain, wM_sub, wM_subN, wM_has, wM_callF, wM_make, wM_newK, wM_newT, wM_get1, wM_get2, wM_field, wM_seq, wM_rngA1, wM_rngA2, wM_enumL, wM_enumT, wM_zipL, wM_zipT, wS_seq, wS_next, wS_brk, wS_cont, wS_bad, wS_if, wS_ret, wS_retN, wS_expr, wS_asg, wS_tg, wS_par, wS_app, wS_put, wS_fldX, wO_bName0, wO_bNameS, wO_bTup, wO_bNil, wO_bCons, wO_fillN, wO_fillS, wO_fillP, putBack_some, putBack_none, putBack_nil, slotSh_s, slotSh_sh, slotSh_ct, slotSh_rc, wipe_nil, wipe_cons, back_nil, back_cons, rest_s, rest_n, rest_sh, rest_ct, rest_rc, add_ii, sub_ii, cmp_ii, eq_ii, ne_ii, is_nn, is_tn, is_ln, is_in, is_bn, is_bb, isn_nn, isn_tn, isn_ln, isn_in, len_l, len_t, int_i, int_b, abs_i, tup_l, tup_t, list_l, list_t, f1_ap, f2_ap, tru_b, tru_t, tru_l, tru_n, item_lstS, item_lstO, item_tupS, wO_map, wO_bind, isi_int_i, isi_int_b, isi_int_n, isi_int_t, isi_int_l, isi_int_s, isi_bool_i, isi_bool_b, isi_bool_n, isi_tl_t, isi_tl_l, isi_tl_i, isi_tl_n, isi_t_t, isi_t_l, isi_l_t, isi_l_l, slice_l, slice_t, shO_sh, blO_bl, blD_bl, intO_i, seq_l, seq_t, seq_f, ownL_l, two_ap, isSh_s, made_ok, toD_sh, toD_lst, mod_ii, mul_ii, div_ii, add_ll, add_tt, List.getElem?_cons_zero, List.getElem?_cons_succ, List.set_cons_zero, List.set_cons_succ, Option.join_some, Option.join_none, List.map_cons, List.map_nil, if_true, if_false, Bool.false_eq_true, reduceIte, Bool.true_or, Bool.or_true, Bool.false_or, Bool.true_and, Bool.and_true, Bool.false_and, Bool.and_false, true_and, and_true, Bool.not_true, Bool.not_false, decide_eq_true_eq, hd.inn]
  by_cases h1 : ∃ l ∈ ls, (l : Int) = 1
  · rw [if_pos h1]
    have e : clL ls = none := by unfold clL conB; rw [decide_eq_true h1]; rfl
    rw [e] at q
    exact q
  · rw [if_neg h1]
    refine wM_lcM natD ls (fun l => .bl (decide (∃ m ∈ ls, (m : Int) = ((flp l : Nat) : Int)))) ?_
    simp only [wO_some, wO_none, wO_ite, wM_ok, wM_bad, wM_pure, wM_bind, wM_map, wM_iteB, wM_iteM, wM_nameB, wM_nameS, wM_nameV, wM_nameM, wM_asSh, wM_cons, wM_consO, wM_consT, wM_consB, wM_tup, wM_lst, wM_opS, wM_opN, wM_bl, wM_andT, wM_orT, wM_if, wM_andV, wM_orV, wM_tru, wM_neg, wM_part, wM_slice, wM_call, wM_isi, wM_op1, wM_bO, wM_chain, wM_sub, wM_subN, wM_has, wM_callF, wM_make, wM_newK, wM_newT, wM_get1, wM_get2, wM_field, wM_seq, wM_rngA1, wM_rngA2, wM_enumL, wM_enumT, wM_zipL, wM_zipT, wS_seq, wS_next, wS_brk, wS_cont, wS_bad, wS_if, wS_ret, wS_retN, wS_expr, wS_asg, wS_tg, wS_par, wS_app, wS_put, wS_fldX, wO_bName0, wO_bNameS, wO_bTup, wO_bNil, wO_bCons, wO_fillN, wO_fillS, wO_fillP, putBack_some, putBack_none, putBack_nil, slotSh_s, slotSh_sh, slotSh_ct, slotSh_rc, wipe_nil, wipe_cons, back_nil, back_cons, rest_s, rest_n, rest_sh, rest_ct, rest_rc, add_ii, sub_ii, cmp_ii, eq_ii, ne_ii, is_nn, is_tn, is_ln, is_in, is_bn, is_bb, isn_nn, isn_tn, isn_ln, isn_in, len_l, len_t, int_i, int_b, abs_i, tup_l, tup_t, list_l, list_t, f1_ap, f2_ap, tru_b, tru_t, tru_l, tru_n, item_lstS, item_lstO, item_tupS, wO_map, wO_bind, isi_int_i, isi_int_b, isi_int_n, isi_int_t, isi_int_l, isi_int_s, isi_bool_i, isi_bool_b, isi_bool_n, isi_tl_t, isi_tl_l, isi_tl_i, isi_tl_n, isi_t_t, isi_t_l, isi_l_t, isi_l_l, slice_l, slice_t, shO_sh, blO_bl, blD_bl, intO_i, seq_l, seq_t, seq_f, ownL_l, two_ap, isSh_s, made_ok, toD_sh, toD_lst, mod_ii, mul_ii, div_ii, add_ll, add_tt, List.getElem?_cons_zero, List.getElem?_cons_succ, List.set_cons_zero, List.set_cons_succ, Option.join_some, Option.join_none, List.map_cons, List.map_nil, if_true, if_false, Bool.false_eq_true, reduceIte, Bool.true_or, Bool.or_true, Bool.false_or, Bool.true_and, Bool.and_true, Bool.false_and, Bool.and_false, true_and, and_true, Bool.not_true, Bool.not_false, decide_eq_true_eq, hd.seq]
    refine ⟨by show _ ≤ 16777216; omega, fun l hlm => ?_, ?_⟩
    · refine opposite_w ?_
      simp only [natD, wO_some, wO_none, wO_ite, wM_ok, wM_bad, wM_pure, wM_bind, wM_map, wM_iteB, wM_iteM, wM_nameB, wM_nameS, wM_nameV, wM_nameM, wM_asSh, wM_cons, wM_consO, wM_consT, wM_consB, wM_tup, wM_lst, wM_opS, wM_opN, wM_bl, wM_andT, wM_orT, wM_if, wM_andV, wM_orV, wM_tru, wM_neg, wM_part, wM_slice, wM_call, wM_isi, wM_op1, wM_bO, wM_chain, wM_sub, wM_subN, wM_has, wM_callF, wM_make, wM_newK, wM_newT, wM_get1, wM_get2, wM_field, wM_seq, wM_rngA1, wM_rngA2, wM_enumL, wM_enumT, wM_zipL, wM_zipT, wS_seq, wS_next, wS_brk, wS_cont, wS_bad, wS_if, wS_ret, wS_retN, wS_expr, wS_asg, wS_tg, wS_par, wS_app, wS_put, wS_fldX, wO_bName0, wO_bNameS, wO_bTup, wO_bNil, wO_bCons, wO_fillN, wO_fillS, wO_fillP, putBack_some, putBack_none, putBack_nil, slotSh_s, slotSh_sh, slotSh_ct, slotSh_rc, wipe_nil, wipe_cons, back_nil, back_cons, rest_s, rest_n, rest_sh, rest_ct, rest_rc, add_ii, sub_ii, cmp_ii, eq_ii, ne_ii, is_nn, is_tn, is_ln, is_in, is_bn, is_bb, isn_nn, isn_tn, isn_ln, isn_in, len_l, len_t, int_i, int_b, abs_i, tup_l, tup_t, list_l, list_t, f1_ap, f2_ap, tru_b, tru_t, tru_l, tru_n, item_lstS, item_lstO, item_tupS, wO_map, wO_bind, isi_int_i, isi_int_b, isi_int_n, isi_int_t, isi_int_l, isi_int_s, isi_bool_i, isi_bool_b, isi_bool_n, isi_tl_t, isi_tl_l, isi_tl_i, isi_tl_n, isi_t_t, isi_t_l, isi_l_t, isi_l_l, slice_l, slice_t, shO_sh, blO_bl, blD_bl, intO_i, seq_l, seq_t, seq_f, ownL_l, two_ap, isSh_s, made_ok, toD_sh, toD_lst, mod_ii, mul_ii, div_ii, add_ll, add_tt, List.getElem?_cons_zero, List.getElem?_cons_succ, List.set_cons_zero, List.set_cons_succ, Option.join_some, Option.join_none, List.map_cons, List.map_nil, if_true, if_false, Bool.false_eq_true, reduceIte, Bool.true_or, Bool.or_true, Bool.false_or, Bool.true_and, Bool.and_true, Bool.false_and, Bool.and_false, true_and, and_true, Bool.not_true, Bool.not_false, decide_eq_true_eq, hd.inn]
    · simp only [wO_some, wO_none, wO_ite, wM_ok, wM_bad, wM_pure, wM_bind, wM_map, wM_iteB, wM_iteM, wM_nameB, wM_nameS, wM_nameV, wM_nameM, wM_asSh, wM_cons, wM_consO, wM_consT, wM_consB, wM_tup, wM_lst, wM_opS, wM_opN, wM_bl, wM_andT, wM_orT, wM_if, wM_andV, wM_orV, wM_tru, wM_neg, wM_part, wM_slice, wM_call, wM_isi, wM_op1, wM_bO, wM_chain, wM_sub, wM_subN, wM_has, wM_callF, wM_make, wM_newK, wM_newT, wM_get1, wM_get2, wM_field, wM_seq, wM_rngA1, wM_rngA2, wM_enumL, wM_enumT, wM_zipL, wM_zipT, wS_seq, wS_next, wS_brk, wS_cont, wS_bad, wS_if, wS_ret, wS_retN, wS_expr, wS_asg, wS_tg, wS_par, wS_app, wS_put, wS_fldX, wO_bName0, wO_bNameS, wO_bTup, wO_bNil, wO_bCons, wO_fillN, wO_fillS, wO_fillP, putBack_some, putBack_none, putBack_nil, slotSh_s, slotSh_sh, slotSh_ct, slotSh_rc, wipe_nil, wipe_cons, back_nil, back_cons, rest_s, rest_n, rest_sh, rest_ct, rest_rc, add_ii, sub_ii, cmp_ii, eq_ii, ne_ii, is_nn, is_tn, is_ln, is_in, is_bn, is_bb, isn_nn, isn_tn, isn_ln, isn_in, len_l, len_t, int_i, int_b, abs_i, tup_l, tup_t, list_l, list_t, f1_ap, f2_ap, tru_b, tru_t, tru_l, tru_n, item_lstS, item_lstO, item_tupS, wO_map, wO_bind, isi_int_i, isi_int_b, isi_int_n, isi_int_t, isi_int_l, isi_int_s, isi_bool_i, isi_bool_b, isi_bool_n, isi_tl_t, isi_tl_l, isi_tl_i, isi_tl_n, isi_t_t, isi_t_l, isi_l_t, isi_l_l, slice_l, slice_t, shO_sh, blO_bl, blD_bl, intO_i, seq_l, seq_t, seq_f, ownL_l, two_ap, isSh_s, made_ok, toD_sh, toD_lst, mod_ii, mul_ii, div_ii, add_ll, add_tt, List.getElem?_cons_zero, List.getElem?_cons_succ, List.set_cons_zero, List.set_cons_succ, Option.join_some, Option.join_none, List.map_cons, List.map_nil, if_true, if_false, Bool.false_eq_true, reduceIte, Bool.true_or, Bool.or_true, Bool.false_or, Bool.true_and, Bool.and_true, Bool.false_and, Bool.and_false, true_and, and_true, Bool.not_true, Bool.not_false, decide_eq_true_eq, any_bls]
      cases hc : (ls.any fun l => decide (∃ m ∈ ls, (m : Int) = ((flp l : Nat) : Int))) with
      | true =>
        have e : clL ls = none := by unfold clL conB; rw [hc, Bool.or_true]; rfl
        rw [e] at q
        simp only [wO_some, wO_none, wO_ite, wM_ok, wM_bad, wM_pure, wM_bind, wM_map, wM_iteB, wM_iteM, wM_nameB, wM_nameS, wM_nameV, wM_nameM, wM_asSh, wM_cons, wM_consO, wM_consT, wM_consB, wM_tup, wM_lst, wM_opS, wM_opN, wM_bl, wM_andT, wM_orT, wM_if, wM_andV, wM_orV, wM_tru, wM_neg, wM_part, wM_slice, wM_call, wM_isi, wM_op1, wM_bO, wM_chain, wM_sub, wM_subN, wM_has, wM_callF, wM_make, wM_newK, wM_newT, wM_get1, wM_get2, wM_field, wM_seq, wM_rngA1, wM_rngA2, wM_enumL, wM_enumT, wM_zipL, wM_zipT, wS_seq, wS_next, wS_brk, wS_cont, wS_bad, wS_if, wS_ret, wS_retN, wS_expr, wS_asg, wS_tg, wS_par, wS_app, wS_put, wS_fldX, wO_bName0, wO_bNameS, wO_bTup, wO_bNil, wO_bCons, wO_fillN, wO_fillS, wO_fillP, putBack_some, putBack_none, putBack_nil, slotSh_s, slotSh_sh, slotSh_ct, slotSh_rc, wipe_nil, wipe_cons, back_nil, back_cons, rest_s, rest_n, rest_sh, rest_ct, rest_rc, add_ii, sub_ii, cmp_ii, eq_ii, ne_ii, is_nn, is_tn, is_ln, is_in, is_bn, is_bb, isn_nn, isn_tn, isn_ln, isn_in, len_l, len_t, int_i, int_b, abs_i, tup_l, tup_t, list_l, list_t, f1_ap, f2_ap, tru_b, tru_t, tru_l, tru_n, item_lstS, item_lstO, item_tupS, wO_map, wO_bind, isi_int_i, isi_int_b, isi_int_n, isi_int_t, isi_int_l, isi_int_s, isi_bool_i, isi_bool_b, isi_bool_n, isi_tl_t, isi_tl_l, isi_tl_i, isi_tl_n, isi_t_t, isi_t_l, isi_l_t, isi_l_l, slice_l, slice_t, shO_sh, blO_bl, blD_bl, intO_i, seq_l, seq_t, seq_f, ownL_l, two_ap, isSh_s, made_ok, toD_sh, toD_lst, mod_ii, mul_ii, div_ii, add_ll, add_tt, List.getElem?_cons_zero, List.getElem?_cons_succ, List.set_cons_zero, List.set_cons_succ, Option.join_some, Option.join_none, List.map_cons, List.map_nil, if_true, if_false, Bool.false_eq_true, reduceIte, Bool.true_or, Bool.or_true, Bool.false_or, Bool.true_and, Bool.and_true, Bool.false_and, Bool.and_false, true_and, and_true, Bool.not_true, Bool.not_false, decide_eq_true_eq]
        exact q
      | false =>
        have hcb : conB ls = false := by unfold conB; rw [hc, decide_eq_false h1]; rfl
        have e : clL ls = some ((sortI (ndL ls)).map (sgnL ls)) := by unfold clL; rw [hcb]; rfl
        rw [e] at q
        simp only [wO_some, wO_none, wO_ite, wM_ok, wM_bad, wM_pure, wM_bind, wM_map, wM_iteB, wM_iteM, wM_nameB, wM_nameS, wM_nameV, wM_nameM, wM_asSh, wM_cons, wM_consO, wM_consT, wM_consB, wM_tup, wM_lst, wM_opS, wM_opN, wM_bl, wM_andT, wM_orT, wM_if, wM_andV, wM_orV, wM_tru, wM_neg, wM_part, wM_slice, wM_call, wM_isi, wM_op1, wM_bO, wM_chain, wM_sub, wM_subN, wM_has, wM_callF, wM_make, wM_newK, wM_newT, wM_get1, wM_get2, wM_field, wM_seq, wM_rngA1, wM_rngA2, wM_enumL, wM_enumT, wM_zipL, wM_zipT, wS_seq, wS_next, wS_brk, wS_cont, wS_bad, wS_if, wS_ret, wS_retN, wS_expr, wS_asg, wS_tg, wS_par, wS_app, wS_put, wS_fldX, wO_bName0, wO_bNameS, wO_bTup, wO_bNil, wO_bCons, wO_fillN, wO_fillS, wO_fillP, putBack_some, putBack_none, putBack_nil, slotSh_s, slotSh_sh, slotSh_ct, slotSh_rc, wipe_nil, wipe_cons, back_nil, back_cons, rest_s, rest_n, rest_sh, rest_ct, rest_rc, add_ii, sub_ii, cmp_ii, eq_ii, ne_ii, is_nn, is_tn, is_ln, is_in, is_bn, is_bb, isn_nn, isn_tn, isn_ln, isn_in, len_l, len_t, int_i, int_b, abs_i, tup_l, tup_t, list_l, list_t, f1_ap, f2_ap, tru_b, tru_t, tru_l, tru_n, item_lstS, item_lstO, item_tupS, wO_map, wO_bind, isi_int_i, isi_int_b, isi_int_n, isi_int_t, isi_int_l, isi_int_s, isi_bool_i, isi_bool_b, isi_bool_n, isi_tl_t, isi_tl_l, isi_tl_i, isi_tl_n, isi_t_t, isi_t_l, isi_l_t, isi_l_l, slice_l, slice_t, shO_sh, blO_bl, blD_bl, intO_i, seq_l, seq_t, seq_f, ownL_l, two_ap, isSh_s, made_ok, toD_sh, toD_lst, mod_ii, mul_ii, div_ii, add_ll, add_tt, List.getElem?_cons_zero, List.getElem?_cons_succ, List.set_cons_zero, List.set_cons_succ, Option.join_some, Option.join_none, List.map_cons, List.map_nil, if_true, if_false, Bool.false_eq_true, reduceIte, Bool.true_or, Bool.or_true, Bool.false_or, Bool.true_and, Bool.and_true, Bool.false_and, Bool.and_false, true_and, and_true, Bool.not_true, Bool.not_false, decide_eq_true_eq]
        refine wS_forL natD ls (fun pre ρ => ∃ ks vs x, ρ = [some (.sh d), some (.fd (.ct (.dk ks vs))), x, none] ∧ DctOk pre ks vs) ?_ ?_ ?_
        · simp only [wO_some, wO_none, wO_ite, wM_ok, wM_bad, wM_pure, wM_bind, wM_map, wM_iteB, wM_iteM, wM_nameB, wM_nameS, wM_nameV, wM_nameM, wM_asSh, wM_cons, wM_consO, wM_consT, wM_consB, wM_tup, wM_lst, wM_opS, wM_opN, wM_bl, wM_andT, wM_orT, wM_if, wM_andV, wM_orV, wM_tru, wM_neg, wM_part, wM_slice, wM_call, wM_isi, wM_op1, wM_bO, wM_chain, wM_sub, wM_subN, wM_has, wM_callF, wM_make, wM_newK, wM_newT, wM_get1, wM_get2, wM_field, wM_seq, wM_rngA1, wM_rngA2, wM_enumL, wM_enumT, wM_zipL, wM_zipT, wS_seq, wS_next, wS_brk, wS_cont, wS_bad, wS_if, wS_ret, wS_retN, wS_expr, wS_asg, wS_tg, wS_par, wS_app, wS_put, wS_fldX, wO_bName0, wO_bNameS, wO_bTup, wO_bNil, wO_bCons, wO_fillN, wO_fillS, wO_fillP, putBack_some, putBack_none, putBack_nil, slotSh_s, slotSh_sh, slotSh_ct, slotSh_rc, wipe_nil, wipe_cons, back_nil, back_cons, rest_s, rest_n, rest_sh, rest_ct, rest_rc, add_ii, sub_ii, cmp_ii, eq_ii, ne_ii, is_nn, is_tn, is_ln, is_in, is_bn, is_bb, isn_nn, isn_tn, isn_ln, isn_in, len_l, len_t, int_i, int_b, abs_i, tup_l, tup_t, list_l, list_t, f1_ap, f2_ap, tru_b, tru_t, tru_l, tru_n, item_lstS, item_lstO, item_tupS, wO_map, wO_bind, isi_int_i, isi_int_b, isi_int_n, isi_int_t, isi_int_l, isi_int_s, isi_bool_i, isi_bool_b, isi_bool_n, isi_tl_t, isi_tl_l, isi_tl_i, isi_tl_n, isi_t_t, isi_t_l, isi_l_t, isi_l_l, slice_l, slice_t, shO_sh, blO_bl, blD_bl, intO_i, seq_l, seq_t, seq_f, ownL_l, two_ap, isSh_s, made_ok, toD_sh, toD_lst, mod_ii, mul_ii, div_ii, add_ll, add_tt, List.getElem?_cons_zero, List.getElem?_cons_succ, List.set_cons_zero, List.set_cons_succ, Option.join_some, Option.join_none, List.map_cons, List.map_nil, if_true, if_false, Bool.false_eq_true, reduceIte, Bool.true_or, Bool.or_true, Bool.false_or, Bool.true_and, Bool.and_true, Bool.false_and, Bool.and_false, true_and, and_true, Bool.not_true, Bool.not_false, decide_eq_true_eq, hd.seq]
          exact ⟨[], [], none, rfl, rfl, rfl, fun l h => by simp at h⟩
        · rintro pre l post _ ee ⟨ks, vs, x, rfl, hk⟩
          have hpl : pre.length < ls.length := by rw [ee]; simp
          have hml : l ∈ ls := by rw [ee]; simp
          have hmp : ∀ m ∈ pre, m ∈ ls := fun m h => by rw [ee]; simp [h]
          have hkl : ks.length ≤ 1000 := by
            have h2 := ddL_le (ls := pre)
            have h3 := List.length_filter_le (fun l => decide (1 < l)) (ddL pre)
            rw [hk.key, List.length_map, List.length_map]
            omega
          have hlb := hls l hml
          simp only [natD, wO_some, wO_none, wO_ite, wM_ok, wM_bad, wM_pure, wM_bind, wM_map, wM_iteB, wM_iteM, wM_nameB, wM_nameS, wM_nameV, wM_nameM, wM_asSh, wM_cons, wM_consO, wM_consT, wM_consB, wM_tup, wM_lst, wM_opS, wM_opN, wM_bl, wM_andT, wM_orT, wM_if, wM_andV, wM_orV, wM_tru, wM_neg, wM_part, wM_slice, wM_call, wM_isi, wM_op1, wM_bO, wM_chain, wM_sub, wM_subN, wM_has, wM_callF, wM_make, wM_newK, wM_newT, wM_get1, wM_get2, wM_field, wM_seq, wM_rngA1, wM_rngA2, wM_enumL, wM_enumT, wM_zipL, wM_zipT, wS_seq, wS_next, wS_brk, wS_cont, wS_bad, wS_if, wS_ret, wS_retN, wS_expr, wS_asg, wS_tg, wS_par, wS_app, wS_put, wS_fldX, wO_bName0, wO_bNameS, wO_bTup, wO_bNil, wO_bCons, wO_fillN, wO_fillS, wO_fillP, putBack_some, putBack_none, putBack_nil, slotSh_s, slotSh_sh, slotSh_ct, slotSh_rc, wipe_nil, wipe_cons, back_nil, back_cons, rest_s, rest_n, rest_sh, rest_ct, rest_rc, add_ii, sub_ii, cmp_ii, eq_ii, ne_ii, is_nn, is_tn, is_ln, is_in, is_bn, is_bb, isn_nn, isn_tn, isn_ln, isn_in, len_l, len_t, int_i, int_b, abs_i, tup_l, tup_t, list_l, list_t, f1_ap, f2_ap, tru_b, tru_t, tru_l, tru_n, item_lstS, item_lstO, item_tupS, wO_map, wO_bind, isi_int_i, isi_int_b, isi_int_n, isi_int_t, isi_int_l, isi_int_s, isi_bool_i, isi_bool_b, isi_bool_n, isi_tl_t, isi_tl_l, isi_tl_i, isi_tl_n, isi_t_t, isi_t_l, isi_l_t, isi_l_l, slice_l, slice_t, shO_sh, blO_bl, blD_bl, intO_i, seq_l, seq_t, seq_f, ownL_l, two_ap, isSh_s, made_ok, toD_sh, toD_lst, mod_ii, mul_ii, div_ii, add_ll, add_tt, List.getElem?_cons_zero, List.getElem?_cons_succ, List.set_cons_zero, List.set_cons_succ, Option.join_some, Option.join_none, List.map_cons, List.map_nil, if_true, if_false, Bool.false_eq_true, reduceIte, Bool.true_or, Bool.or_true, Bool.false_or, Bool.true_and, Bool.and_true, Bool.false_and, Bool.and_false, true_and, and_true, Bool.not_true, Bool.not_false, decide_eq_true_eq]
          by_cases h2 : 1 < l
          · rw [if_pos (by omega)]
            have hput := hk.put hcb hmp hml h2
            have hs : (2 : Int).natAbs < P512 := small512 (by decide) (by decide)
            have h02 : (0 : Int) < 2 := by decide
            have hkl2 : ks.length < lim := by show _ < 16777216; omega
            simp only [wO_some, wO_none, wO_ite, wM_ok, wM_bad, wM_pure, wM_bind, wM_map, wM_iteB, wM_iteM, wM_nameB, wM_nameS, wM_nameV, wM_nameM, wM_asSh, wM_cons, wM_consO, wM_consT, wM_consB, wM_tup, wM_lst, wM_opS, wM_opN, wM_bl, wM_andT, wM_orT, wM_if, wM_andV, wM_orV, wM_tru, wM_neg, wM_part, wM_slice, wM_call, wM_isi, wM_op1, wM_bO, wM_chain, wM_sub, wM_subN, wM_has, wM_callF, wM_make, wM_newK, wM_newT, wM_get1, wM_get2, wM_field, wM_seq, wM_rngA1, wM_rngA2, wM_enumL, wM_enumT, wM_zipL, wM_zipT, wS_seq, wS_next, wS_brk, wS_cont, wS_bad, wS_if, wS_ret, wS_retN, wS_expr, wS_asg, wS_tg, wS_par, wS_app, wS_put, wS_fldX, wO_bName0, wO_bNameS, wO_bTup, wO_bNil, wO_bCons, wO_fillN, wO_fillS, wO_fillP, putBack_some, putBack_none, putBack_nil, slotSh_s, slotSh_sh, slotSh_ct, slotSh_rc, wipe_nil, wipe_cons, back_nil, back_cons, rest_s, rest_n, rest_sh, rest_ct, rest_rc, add_ii, sub_ii, cmp_ii, eq_ii, ne_ii, is_nn, is_tn, is_ln, is_in, is_bn, is_bb, isn_nn, isn_tn, isn_ln, isn_in, len_l, len_t, int_i, int_b, abs_i, tup_l, tup_t, list_l, list_t, f1_ap, f2_ap, tru_b, tru_t, tru_l, tru_n, item_lstS, item_lstO, item_tupS, wO_map, wO_bind, isi_int_i, isi_int_b, isi_int_n, isi_int_t, isi_int_l, isi_int_s, isi_bool_i, isi_bool_b, isi_bool_n, isi_tl_t, isi_tl_l, isi_tl_i, isi_tl_n, isi_t_t, isi_t_l, isi_l_t, isi_l_l, slice_l, slice_t, shO_sh, blO_bl, blD_bl, intO_i, seq_l, seq_t, seq_f, ownL_l, two_ap, isSh_s, made_ok, toD_sh, toD_lst, mod_ii, mul_ii, div_ii, add_ll, add_tt, List.getElem?_cons_zero, List.getElem?_cons_succ, List.set_cons_zero, List.set_cons_succ, Option.join_some, Option.join_none, List.map_cons, List.map_nil, if_true, if_false, Bool.false_eq_true, reduceIte, Bool.true_or, Bool.or_true, Bool.false_or, Bool.true_and, Bool.and_true, Bool.false_and, Bool.and_false, true_and, and_true, Bool.not_true, Bool.not_false, decide_eq_true_eq, put_dk, hs, h02, hkl2]
            by_cases h3 : (l : Int) % 2 = 0
            · rw [if_pos (by simpa using h3)]
              rw [show litI l = (l : Int) / 2 from if_pos h3] at hput
              exact ⟨_, _, _, rfl, hput⟩
            · rw [if_neg (by simpa using h3)]
              rw [show litI l = -((l : Int) / 2) from if_neg h3] at hput
              exact ⟨_, _, _, rfl, hput⟩
          · rw [if_neg (by omega)]
            exact ⟨ks, vs, _, rfl, hk.skip h2⟩
        · rintro _ ⟨ks, vs, x, rfl, hk⟩
          simp only [wO_some, wO_none, wO_ite, wM_ok, wM_bad, wM_pure, wM_bind, wM_map, wM_iteB, wM_iteM, wM_nameB, wM_nameS, wM_nameV, wM_nameM, wM_asSh, wM_cons, wM_consO, wM_consT, wM_consB, wM_tup, wM_lst, wM_opS, wM_opN, wM_bl, wM_andT, wM_orT, wM_if, wM_andV, wM_orV, wM_tru, wM_neg, wM_part, wM_slice, wM_call, wM_isi, wM_op1, wM_bO, wM_chain, wM_sub, wM_subN, wM_has, wM_callF, wM_make, wM_newK, wM_newT, wM_get1, wM_get2, wM_field, wM_seq, wM_rngA1, wM_rngA2, wM_enumL, wM_enumT, wM_zipL, wM_zipT, wS_seq, wS_next, wS_brk, wS_cont, wS_bad, wS_if, wS_ret, wS_retN, wS_expr, wS_asg, wS_tg, wS_par, wS_app, wS_put, wS_fldX, wO_bName0, wO_bNameS, wO_bTup, wO_bNil, wO_bCons, wO_fillN, wO_fillS, wO_fillP, putBack_some, putBack_none, putBack_nil, slotSh_s, slotSh_sh, slotSh_ct, slotSh_rc, wipe_nil, wipe_cons, back_nil, back_cons, rest_s, rest_n, rest_sh, rest_ct, rest_rc, add_ii, sub_ii, cmp_ii, eq_ii, ne_ii, is_nn, is_tn, is_ln, is_in, is_bn, is_bb, isn_nn, isn_tn, isn_ln, isn_in, len_l, len_t, int_i, int_b, abs_i, tup_l, tup_t, list_l, list_t, f1_ap, f2_ap, tru_b, tru_t, tru_l, tru_n, item_lstS, item_lstO, item_tupS, wO_map, wO_bind, isi_int_i, isi_int_b, isi_int_n, isi_int_t, isi_int_l, isi_int_s, isi_bool_i, isi_bool_b, isi_bool_n, isi_tl_t, isi_tl_l, isi_tl_i, isi_tl_n, isi_t_t, isi_t_l, isi_l_t, isi_l_l, slice_l, slice_t, shO_sh, blO_bl, blD_bl, intO_i, seq_l, seq_t, seq_f, ownL_l, two_ap, isSh_s, made_ok, toD_sh, toD_lst, mod_ii, mul_ii, div_ii, add_ll, add_tt, List.getElem?_cons_zero, List.getElem?_cons_succ, List.set_cons_zero, List.set_cons_succ, Option.join_some, Option.join_none, List.map_cons, List.map_nil, if_true, if_false, Bool.false_eq_true, reduceIte, Bool.true_or, Bool.or_true, Bool.false_or, Bool.true_and, Bool.and_true, Bool.false_and, Bool.and_false, true_and, and_true, Bool.not_true, Bool.not_false, decide_eq_true_eq]
          have hkey : ks = (ndL ls).map Sum.inl := hk.key
          have hn : (ndL ls).length < 64 := by
            have h2 := ddL_le (ls := ls)
            have := List.length_filter_le (fun l => decide (1 < l)) (ddL ls)
            unfold ndL
            rw [List.length_map]
            omega
          refine wM_lcM D.int (sortI (ndL ls)) (fun n => .int (sgnL ls n)) ?_
          have es : sortDO (.dk ks vs) = some (.lst ((sortI (ndL ls)).map D.int)) := by rw [hkey]; exact sort_dk hn
          simp only [wO_some, wO_none, wO_ite, wM_ok, wM_bad, wM_pure, wM_bind, wM_map, wM_iteB, wM_iteM, wM_nameB, wM_nameS, wM_nameV, wM_nameM, wM_asSh, wM_cons, wM_consO, wM_consT, wM_consB, wM_tup, wM_lst, wM_opS, wM_opN, wM_bl, wM_andT, wM_orT, wM_if, wM_andV, wM_orV, wM_tru, wM_neg, wM_part, wM_slice, wM_call, wM_isi, wM_op1, wM_bO, wM_chain, wM_sub, wM_subN, wM_has, wM_callF, wM_make, wM_newK, wM_newT, wM_get1, wM_get2, wM_field, wM_seq, wM_rngA1, wM_rngA2, wM_enumL, wM_enumT, wM_zipL, wM_zipT, wS_seq, wS_next, wS_brk, wS_cont, wS_bad, wS_if, wS_ret, wS_retN, wS_expr, wS_asg, wS_tg, wS_par, wS_app, wS_put, wS_fldX, wO_bName0, wO_bNameS, wO_bTup, wO_bNil, wO_bCons, wO_fillN, wO_fillS, wO_fillP, putBack_some, putBack_none, putBack_nil, slotSh_s, slotSh_sh, slotSh_ct, slotSh_rc, wipe_nil, wipe_cons, back_nil, back_cons, rest_s, rest_n, rest_sh, rest_ct, rest_rc, add_ii, sub_ii, cmp_ii, eq_ii, ne_ii, is_nn, is_tn, is_ln, is_in, is_bn, is_bb, isn_nn, isn_tn, isn_ln, isn_in, len_l, len_t, int_i, int_b, abs_i, tup_l, tup_t, list_l, list_t, f1_ap, f2_ap, tru_b, tru_t, tru_l, tru_n, item_lstS, item_lstO, item_tupS, wO_map, wO_bind, isi_int_i, isi_int_b, isi_int_n, isi_int_t, isi_int_l, isi_int_s, isi_bool_i, isi_bool_b, isi_bool_n, isi_tl_t, isi_tl_l, isi_tl_i, isi_tl_n, isi_t_t, isi_t_l, isi_l_t, isi_l_l, slice_l, slice_t, shO_sh, blO_bl, blD_bl, intO_i, seq_l, seq_t, seq_f, ownL_l, two_ap, isSh_s, made_ok, toD_sh, toD_lst, mod_ii, mul_ii, div_ii, add_ll, add_tt, List.getElem?_cons_zero, List.getElem?_cons_succ, List.set_cons_zero, List.set_cons_succ, Option.join_some, Option.join_none, List.map_cons, List.map_nil, if_true, if_false, Bool.false_eq_true, reduceIte, Bool.true_or, Bool.or_true, Bool.false_or, Bool.true_and, Bool.and_true, Bool.false_and, Bool.and_false, true_and, and_true, Bool.not_true, Bool.not_false, decide_eq_true_eq, toD_ct, Ct.toD, es, item_dk]
          refine ⟨by rw [sortI_len]; show _ ≤ 16777216; omega, fun n hnm => ?_, ?_⟩
          · obtain ⟨l, ⟨hlm, hl1⟩, rfl⟩ := ndL_mem.mp ((sortI_perm _).mem_iff.mp hnm)
            rw [hk.val l hlm hl1]
            simp only [wO_some, wO_none, wO_ite, wM_ok, wM_bad, wM_pure, wM_bind, wM_map, wM_iteB, wM_iteM, wM_nameB, wM_nameS, wM_nameV, wM_nameM, wM_asSh, wM_cons, wM_consO, wM_consT, wM_consB, wM_tup, wM_lst, wM_opS, wM_opN, wM_bl, wM_andT, wM_orT, wM_if, wM_andV, wM_orV, wM_tru, wM_neg, wM_part, wM_slice, wM_call, wM_isi, wM_op1, wM_bO, wM_chain, wM_sub, wM_subN, wM_has, wM_callF, wM_make, wM_newK, wM_newT, wM_get1, wM_get2, wM_field, wM_seq, wM_rngA1, wM_rngA2, wM_enumL, wM_enumT, wM_zipL, wM_zipT, wS_seq, wS_next, wS_brk, wS_cont, wS_bad, wS_if, wS_ret, wS_retN, wS_expr, wS_asg, wS_tg, wS_par, wS_app, wS_put, wS_fldX, wO_bName0, wO_bNameS, wO_bTup, wO_bNil, wO_bCons, wO_fillN, wO_fillS, wO_fillP, putBack_some, putBack_none, putBack_nil, slotSh_s, slotSh_sh, slotSh_ct, slotSh_rc, wipe_nil, wipe_cons, back_nil, back_cons, rest_s, rest_n, rest_sh, rest_ct, rest_rc, add_ii, sub_ii, cmp_ii, eq_ii, ne_ii, is_nn, is_tn, is_ln, is_in, is_bn, is_bb, isn_nn, isn_tn, isn_ln, isn_in, len_l, len_t, int_i, int_b, abs_i, tup_l, tup_t, list_l, list_t, f1_ap, f2_ap, tru_b, tru_t, tru_l, tru_n, item_lstS, item_lstO, item_tupS, wO_map, wO_bind, isi_int_i, isi_int_b, isi_int_n, isi_int_t, isi_int_l, isi_int_s, isi_bool_i, isi_bool_b, isi_bool_n, isi_tl_t, isi_tl_l, isi_tl_i, isi_tl_n, isi_t_t, isi_t_l, isi_l_t, isi_l_l, slice_l, slice_t, shO_sh, blO_bl, blD_bl, intO_i, seq_l, seq_t, seq_f, ownL_l, two_ap, isSh_s, made_ok, toD_sh, toD_lst, mod_ii, mul_ii, div_ii, add_ll, add_tt, List.getElem?_cons_zero, List.getElem?_cons_succ, List.set_cons_zero, List.set_cons_succ, Option.join_some, Option.join_none, List.map_cons, List.map_nil, if_true, if_false, Bool.false_eq_true, reduceIte, Bool.true_or, Bool.or_true, Bool.false_or, Bool.true_and, Bool.and_true, Bool.false_and, Bool.and_false, true_and, and_true, Bool.not_true, Bool.not_false, decide_eq_true_eq]
            have e5 : litI l = sgnL ls ((l : Int) / 2) := by
              unfold litI sgnL
              by_cases h3 : (l : Int) % 2 = 0
              · rw [if_pos h3, if_pos ⟨l, hlm, by omega⟩]
              · rw [if_neg h3, if_neg]
                rintro ⟨m, hmm, e6⟩
                have := (con_out hcb hlm hmm).2
                unfold flp at this
                split at this <;> omega
            rw [e5]
          · have e3 : (sortI (ndL ls)).map (fun n => D.int (sgnL ls n)) = ((sortI (ndL ls)).map (sgnL ls)).map D.int := by rw [List.map_map]; rfl
            rw [e3]
            exact q
end
end DL

end

section
set_option Elab.async false
set_option linter.all false
set_option maxRecDepth 100000
/-! EG, part C: the clauses of a graph. -/
namespace DL
open PySem L2 RZ PyProof.Rows
section
variable {Q : O → DL.Env → Prop} {X : D → DL.Env → Prop} {ρ : DL.Env}
/-- the rows of literals of one gate -/
def rowsG (gate : Nat) (g : Nat × Nat) : List (List Nat) := [[g.1, gate + 1], [g.2, gate + 1], [flp g.1, flp g.2, gate]]
def clsF (leaves : Nat) : Nat → List (Nat × Nat) → List (List Int)
  | _, [] => []
  | k, g :: gs => (rowsG (2 * (1 + leaves + k)) g).filterMap clL ++ clsF leaves (k + 1) gs
def clsL (leaves : Nat) (gs : List (Nat × Nat)) : List (List Int) := clsF leaves 0 gs
theorem clsF_snoc {leaves : Nat} {g : Nat × Nat} : ∀ {gs : List (Nat × Nat)} {k : Nat}, clsF leaves k (gs ++ [g]) = clsF leaves k gs ++ (rowsG (2 * (1 + leaves + (k + gs.length))) g).filterMap clL
  | [], k => by simp [clsF]
  | h :: gs, k => by
    have e : k + 1 + gs.length = k + (gs.length + 1) := by omega
    simp only [List.cons_append, clsF, clsF_snoc (gs := gs), List.append_assoc, List.length_cons, e]
theorem clsL_snoc {leaves : Nat} {gs : List (Nat × Nat)} {g : Nat × Nat} : clsL leaves (gs ++ [g]) = clsL leaves gs ++ (rowsG (2 * (1 + leaves + gs.length)) g).filterMap clL := by
  unfold clsL
  rw [clsF_snoc, Nat.zero_add]
theorem rowsG_fm {gate : Nat} {g : Nat × Nat} : ((rowsG gate g).filterMap clL).length ≤ 3 := List.length_filterMap_le _ _
theorem clsL_len {leaves : Nat} {gs : List (Nat × Nat)} : (clsL leaves gs).length ≤ 3 * gs.length := by
  induction gs using snoc_ind with
  | h0 => simp [clsL, clsF]
  | h1 gs g ih =>
    rw [clsL_snoc, List.length_append, List.length_append]
    have := rowsG_fm (gate := 2 * (1 + leaves + gs.length)) (g := g)
    simp only [List.length_cons, List.length_nil]
    omega
def cD (cs : List Int) : D := .tup (cs.map D.int)
theorem fm_some {rs : List (List Nat)} : ((rs.map clL).filter Option.isSome).map (fun c => (clO c).toD) = (rs.filterMap clL).map cD := by
  induction rs with
  | nil => rfl
  | cons r rs ih =>
    rw [List.map_cons, List.filter_cons, List.filterMap_cons]
    cases h : clL r with
    | none => simpa using ih
    | some c => simp only [Option.isSome_some, if_true, List.map_cons, ih]; rfl
theorem rowsG_ok {leaves k : Nat} {g : Nat × Nat} (h1 : g.1 < 2 * (1 + leaves + k)) (h2 : g.2 < 2 * (1 + leaves + k)) {r : List Nat} (hr : r ∈ rowsG (2 * (1 + leaves + k)) g) : r.length ≤ 3 ∧ ∀ l ∈ r, l < 2 * (1 + leaves + k) + 2 := by
  have f1 : flp g.1 < 2 * (1 + leaves + k) + 2 := by unfold flp; split <;> omega
  have f2 : flp g.2 < 2 * (1 + leaves + k) + 2 := by unfold flp; split <;> omega
  unfold rowsG at hr
  simp only [List.mem_cons, List.not_mem_nil, or_false] at hr
  rcases hr with rfl | rfl | rfl
  · refine ⟨by simp, fun l hl => ?_⟩
    simp only [List.mem_cons, List.not_mem_nil, or_false] at hl
    rcases hl with rfl | rfl <;> omega
  · refine ⟨by simp, fun l hl => ?_⟩
    simp only [List.mem_cons, List.not_mem_nil, or_false] at hl
    rcases hl with rfl | rfl <;> omega
  · refine ⟨by simp, fun l hl => ?_⟩
    simp only [List.mem_cons, List.not_mem_nil, or_false] at hl
    rcases hl with rfl | rfl | rfl <;> omega
theorem clauses_of_w {leaves : Nat} {gs : List (Nat × Nat)} (hg : GOk leaves gs) (hl : leaves ≤ 500) (hn : gs.length ≤ 500) (q : Q (.sh (.tup ((clsL leaves gs).map cD))) [some (gO leaves gs)]) :
    wM (sem_clauses_of [gO leaves gs]) Q X := by
  refine sem_w [some (gO leaves gs), none, none, none, none, none, none, none, none] rfl rfl ?_
  unfold d_clauses_of
  simp only [wO_some, wO_none, wO_ite, wM_ok, wM_bad, wM_pure, wM_bind, wM_map, wM_iteB, wM_iteM, wM_nameB, wM_nameS, wM_nameV, wM_nameM, wM_asSh, wM_cons, wM_consO, wM_consT, wM_consB, wM_tup, wM_lst, wM_opS, wM_opN, wM_bl, wM_andT, wM_orT, wM_if, wM_andV, wM_orV, wM_tru, wM_neg, wM_part, wM_slice, wM_call, wM_isi, wM_op1, wM_bO, wM_chain, wM_sub, wM_subN, wM_has, wM_callF, wM_make, wM_newK, wM_newT, wM_get1, wM_get2, wM_field, wM_seq, wM_rngA1, wM_rngA2, wM_enumL, wM_enumT, wM_zipL, wM_zipT, wS_seq, wS_next, wS_brk, wS_cont, wS_bad, wS_if, wS_ret, wS_retN, wS_expr, wS_asg, wS_tg, wS_par, wS_app, wS_put, wS_fldX, wO_bName0, wO_bNameS, wO_bTup, wO_bNil, wO_bCons, wO_fillN, wO_fillS, wO_fillP, putBack_some, putBack_none, putBack_nil, slotSh_s, slotSh_sh, slotSh_ct, slotSh_rc, wipe_nil, wipe_cons, back_nil, back_cons, rest_s, rest_n, rest_sh, rest_ct, rest_rc, add_ii, sub_ii, cmp_ii, eq_ii, ne_ii, is_nn, is_tn, is_ln, is_in, is_bn, is_bb, isn_nn, isn_tn, isn_ln, isn_in, len_l, len_t, int_i, int_b, abs_i, tup_l, tup_t, list_l, list_t, f1_ap, f2_ap, tru_b, tru_t, tru_l, tru_n, item_lstS, item_lstO, item_tupS, wO_map, wO_bind, isi_int_i, isi_int_b, isi_int_n, isi_int_t, isi_int_l, isi_int_s, isi_bool_i, isi_bool_b, isi_bool_n, isi_tl_t, isi_tl_l, isi_tl_i, isi_tl_n, isi_t_t, isi_t_l, isi_l_t, isi_l_l, slice_l, slice_t, shO_sh, blO_bl, blD_bl, intO_i, seq_l, seq_t, seq_f, ownL_l, two_ap, isSh_s, made_ok, toD_sh, toD_lst, mod_ii, mul_ii, div_ii, add_ll, add_tt, List.getElem?_cons_zero, List.getElem?_cons_succ, List.set_cons_zero, List.set_cons_succ, Option.join_some, Option.join_none, List.map_cons, List.map_nil, if_true, if_false, Bool.false_eq_true, reduceIte, Bool.true_or, Bool.or_true, Bool.false_or, Bool.true_and, Bool.and_true, Bool.false_and, Bool.and_false, true_and, and_true, Bool.not_true, Bool.not_false, decide_eq_true_eq, List.length_nil]
  refine ⟨by show 0 ≤ lim; decide, ?_⟩
  refine wS_forE gD gs (fun pre ρ => ∃ a b c d e, ρ = [some (gO leaves gs), some (.lst ((clsL leaves pre).map cD)), a, b, c, d, e, none, none]) ?_ ?_ ?_
  · simp only [wO_some, wO_none, wO_ite, wM_ok, wM_bad, wM_pure, wM_bind, wM_map, wM_iteB, wM_iteM, wM_nameB, wM_nameS, wM_nameV, wM_nameM, wM_asSh, wM_cons, wM_consO, wM_consT, wM_consB, wM_tup, wM_lst, wM_opS, wM_opN, wM_bl, wM_andT, wM_orT, wM_if, wM_andV, wM_orV, wM_tru, wM_neg, wM_part, wM_slice, wM_call, wM_isi, wM_op1, wM_bO, wM_chain, wM_sub, wM_subN, wM_has, wM_callF, wM_make, wM_newK, wM_newT, wM_get1, wM_get2, wM_field, wM_seq, wM_rngA1, wM_rngA2, wM_enumL, wM_enumT, wM_zipL, wM_zipT, wS_seq, wS_next, wS_brk, wS_cont, wS_bad, wS_if, wS_ret, wS_retN, wS_expr, wS_asg, wS_tg, wS_par, wS_app, wS_put, wS_fldX, wO_bName0, wO_bNameS, wO_bTup, wO_bNil, wO_bCons, wO_fillN, wO_fillS, wO_fillP, putBack_some, putBack_none, putBack_nil, slotSh_s, slotSh_sh, slotSh_ct, slotSh_rc, wipe_nil, wipe_cons, back_nil, back_cons, rest_s, rest_n, rest_sh, rest_ct, rest_rc, add_ii, sub_ii, cmp_ii, eq_ii, ne_ii, is_nn, is_tn, is_ln, is_in, is_bn, is_bb, isn_nn, isn_tn, isn_ln, isn_in, len_l, len_t, int_i, int_b, abs_i, tup_l, tup_t, list_l, list_t, f1_ap, f2_ap, tru_b, tru_t, tru_l, tru_n, item_lstS, item_lstO, item_tupS, wO_map, wO_bind, isi_int_i, isi_int_b, isi_int_n, isi_int_t, isi_int_l, isi_int_s, isi_bool_i, isi_bool_b, isi_bool_n, isi_tl_t, isi_tl_l, isi_tl_i, isi_tl_n, isi_t_t, isi_t_l, isi_l_t, isi_l_l, slice_l, slice_t, shO_sh, blO_bl, blD_bl, intO_i, seq_l, seq_t, seq_f, ownL_l, two_ap, isSh_s, made_ok, toD_sh, toD_lst, mod_ii, mul_ii, div_ii, add_ll, add_tt, List.getElem?_cons_zero, List.getElem?_cons_succ, List.set_cons_zero, List.set_cons_succ, Option.join_some, Option.join_none, List.map_cons, List.map_nil, if_true, if_false, Bool.false_eq_true, reduceIte, Bool.true_or, Bool.or_true, Bool.false_or, Bool.true_and, Bool.and_true, Bool.false_and, Bool.and_false, true_and, and_true, Bool.not_true, Bool.not_false, decide_eq_true_eq, fldV_gates]
    exact ⟨none, none, none, none, none, rfl⟩
  · rintro pre g post _ ee ⟨a, b, c, d, e, rfl⟩
    have hk := hg pre g post ee
    have hp : pre.length < gs.length := by rw [ee]; simp
    have hcl := clsL_len (leaves := leaves) (gs := pre)
    simp only [wO_some, wO_none, wO_ite, wM_ok, wM_bad, wM_pure, wM_bind, wM_map, wM_iteB, wM_iteM, wM_nameB, wM_nameS, wM_nameV, wM_nameM, wM_asSh, wM_cons, wM_consO, wM_consT, wM_consB, wM_tup, wM_lst, wM_opS, wM_opN, wM_bl, wM_andT, wM_orT, wM_if, wM_andV, wM_orV, wM_tru, wM_neg, wM_part, wM_slice, wM_call, wM_isi, wM_op1, wM_bO, wM_chain, wM_sub, wM_subN, wM_has, wM_callF, wM_make, wM_newK, wM_newT, wM_get1, wM_get2, wM_field, wM_seq, wM_rngA1, wM_rngA2, wM_enumL, wM_enumT, wM_zipL, wM_zipT, wS_seq, wS_next, wS_brk, wS_cont, wS_bad, wS_if, wS_ret, wS_retN, wS_expr, wS_asg, wS_tg, wS_par, wS_app, wS_put, wS_fldX, wO_bName0, wO_bNameS, wO_bTup, wO_bNil, wO_bCons, wO_fillN, wO_fillS, wO_fillP, putBack_some, putBack_none, putBack_nil, slotSh_s, slotSh_sh, slotSh_ct, slotSh_rc, wipe_nil, wipe_cons, back_nil, back_cons, rest_s, rest_n, rest_sh, rest_ct, rest_rc, add_ii, sub_ii, cmp_ii, eq_ii, ne_ii, is_nn, is_tn, is_ln, is_in, is_bn, is_bb, isn_nn, isn_tn, isn_ln, isn_in, len_l, len_t, int_i, int_b, abs_i, tup_l, tup_t, list_l, list_t, f1_ap, f2_ap, tru_b, tru_t, tru_l, tru_n, item_lstS, item_lstO, item_tupS, wO_map, wO_bind, isi_int_i, isi_int_b, isi_int_n, isi_int_t, isi_int_l, isi_int_s, isi_bool_i, isi_bool_b, isi_bool_n, isi_tl_t, isi_tl_l, isi_tl_i, isi_tl_n, isi_t_t, isi_t_l, isi_l_t, isi_l_l, slice_l, slice_t, shO_sh, blO_bl, blD_bl, intO_i, seq_l, seq_t, seq_f, ownL_l, two_ap, isSh_s, made_ok, toD_sh, toD_lst, mod_ii, mul_ii, div_ii, add_ll, add_tt, List.getElem?_cons_zero, List.getElem?_cons_succ, List.set_cons_zero, List.set_cons_succ, Option.join_some, Option.join_none, List.map_cons, List.map_nil, if_true, if_false, Bool.false_eq_true, reduceIte, Bool.true_or, Bool.or_true, Bool.false_or, Bool.true_and, Bool.and_true, Bool.false_and, Bool.and_false, true_and, and_true, Bool.not_true, Bool.not_false, decide_eq_true_eq, len0, len1, len2, len3, len4, len5, len6, abs2, pos2, wM_disp, wM_consP, isDk_dk, isDk_dt, toD_ct, Ct.toD, gD, g_leaves]
    simp only [natD, wO_some, wO_none, wO_ite, wM_ok, wM_bad, wM_pure, wM_bind, wM_map, wM_iteB, wM_iteM, wM_nameB, wM_nameS, wM_nameV, wM_nameM, wM_asSh, wM_cons, wM_consO, wM_consT, wM_consB, wM_tup, wM_lst, wM_opS, wM_opN, wM_bl, wM_andT, wM_orT, wM_if, wM_andV, wM_orV, wM_tru, wM_neg, wM_part, wM_slice, wM_call, wM_isi, wM_op1, wM_bO, wM_chain, wM_sub, wM_subN, wM_has, wM_callF, wM_make, wM_newK, wM_newT, wM_get1, wM_get2, wM_field, wM_seq, wM_rngA1, wM_rngA2, wM_enumL, wM_enumT, wM_zipL, wM_zipT, wS_seq, wS_next, wS_brk, wS_cont, wS_bad, wS_if, wS_ret, wS_retN, wS_expr, wS_asg, wS_tg, wS_par, wS_app, wS_put, wS_fldX, wO_bName0, wO_bNameS, wO_bTup, wO_bNil, wO_bCons, wO_fillN, wO_fillS, wO_fillP, putBack_some, putBack_none, putBack_nil, slotSh_s, slotSh_sh, slotSh_ct, slotSh_rc, wipe_nil, wipe_cons, back_nil, back_cons, rest_s, rest_n, rest_sh, rest_ct, rest_rc, add_ii, sub_ii, cmp_ii, eq_ii, ne_ii, is_nn, is_tn, is_ln, is_in, is_bn, is_bb, isn_nn, isn_tn, isn_ln, isn_in, len_l, len_t, int_i, int_b, abs_i, tup_l, tup_t, list_l, list_t, f1_ap, f2_ap, tru_b, tru_t, tru_l, tru_n, item_lstS, item_lstO, item_tupS, wO_map, wO_bind, isi_int_i, isi_int_b, isi_int_n, isi_int_t, isi_int_l, isi_int_s, isi_bool_i, isi_bool_b, isi_bool_n, isi_tl_t, isi_tl_l, isi_tl_i, isi_tl_n, isi_t_t, isi_t_l, isi_l_t, isi_l_l, slice_l, slice_t, shO_sh, blO_bl, blD_bl, intO_i, seq_l, seq_t, seq_f, ownL_l, two_ap, isSh_s, made_ok, toD_sh, toD_lst, mod_ii, mul_ii, div_ii, add_ll, add_tt, List.getElem?_cons_zero, List.getElem?_cons_succ, List.set_cons_zero, List.set_cons_succ, Option.join_some, Option.join_none, List.map_cons, List.map_nil, if_true, if_false, Bool.false_eq_true, reduceIte, Bool.true_or, Bool.or_true, Bool.false_or, Bool.true_and, Bool.and_true, Bool.false_and, Bool.and_false, true_and, and_true, Bool.not_true, Bool.not_false, decide_eq_true_eq, len0, len1, len2, len3, len4, len5, len6, abs2, pos2, wM_disp, wM_consP, isDk_dk, isDk_dt, toD_ct, Ct.toD]
    refine ⟨small512 (by omega) (by omega), ?_⟩
    refine opposite_w ?_
    simp only [natD, wO_some, wO_none, wO_ite, wM_ok, wM_bad, wM_pure, wM_bind, wM_map, wM_iteB, wM_iteM, wM_nameB, wM_nameS, wM_nameV, wM_nameM, wM_asSh, wM_cons, wM_consO, wM_consT, wM_consB, wM_tup, wM_lst, wM_opS, wM_opN, wM_bl, wM_andT, wM_orT, wM_if, wM_andV, wM_orV, wM_tru, wM_neg, wM_part, wM_slice, wM_call, wM_isi, wM_op1, wM_bO, wM_chain, wM_sub, wM_subN, wM_has, wM_callF, wM_make, wM_newK, wM_newT, wM_get1, wM_get2, wM_field, wM_seq, wM_rngA1, wM_rngA2, wM_enumL, wM_enumT, wM_zipL, wM_zipT, wS_seq, wS_next, wS_brk, wS_cont, wS_bad, wS_if, wS_ret, wS_retN, wS_expr, wS_asg, wS_tg, wS_par, wS_app, wS_put, wS_fldX, wO_bName0, wO_bNameS, wO_bTup, wO_bNil, wO_bCons, wO_fillN, wO_fillS, wO_fillP, putBack_some, putBack_none, putBack_nil, slotSh_s, slotSh_sh, slotSh_ct, slotSh_rc, wipe_nil, wipe_cons, back_nil, back_cons, rest_s, rest_n, rest_sh, rest_ct, rest_rc, add_ii, sub_ii, cmp_ii, eq_ii, ne_ii, is_nn, is_tn, is_ln, is_in, is_bn, is_bb, isn_nn, isn_tn, isn_ln, isn_in, len_l, len_t, int_i, int_b, abs_i, tup_l, tup_t, list_l, list_t, f1_ap, f2_ap, tru_b, tru_t, tru_l, tru_n, item_lstS, item_lstO, item_tupS, wO_map, wO_bind, isi_int_i, isi_int_b, isi_int_n, isi_int_t, isi_int_l, isi_int_s, isi_bool_i, isi_bool_b, isi_bool_n, isi_tl_t, isi_tl_l, isi_tl_i, isi_tl_n, isi_t_t, isi_t_l, isi_l_t, isi_l_l, slice_l, slice_t, shO_sh, blO_bl, blD_bl, intO_i, seq_l, seq_t, seq_f, ownL_l, two_ap, isSh_s, made_ok, toD_sh, toD_lst, mod_ii, mul_ii, div_ii, add_ll, add_tt, List.getElem?_cons_zero, List.getElem?_cons_succ, List.set_cons_zero, List.set_cons_succ, Option.join_some, Option.join_none, List.map_cons, List.map_nil, if_true, if_false, Bool.false_eq_true, reduceIte, Bool.true_or, Bool.or_true, Bool.false_or, Bool.true_and, Bool.and_true, Bool.false_and, Bool.and_false, true_and, and_true, Bool.not_true, Bool.not_false, decide_eq_true_eq, len0, len1, len2, len3, len4, len5, len6, abs2, pos2, wM_disp, wM_consP, isDk_dk, isDk_dt, toD_ct, Ct.toD]
    refine opposite_w ?_
    simp only [natD, wO_some, wO_none, wO_ite, wM_ok, wM_bad, wM_pure, wM_bind, wM_map, wM_iteB, wM_iteM, wM_nameB, wM_nameS, wM_nameV, wM_nameM, wM_asSh, wM_cons, wM_consO, wM_consT, wM_consB, wM_tup, wM_lst, wM_opS, wM_opN, wM_bl, wM_andT, wM_orT, wM_if, wM_andV, wM_orV, wM_tru, wM_neg, wM_part, wM_slice, wM_call, wM_isi, wM_op1, wM_bO, wM_chain, wM_sub, wM_subN, wM_has, wM_callF, wM_make, wM_newK, wM_newT, wM_get1, wM_get2, wM_field, wM_seq, wM_rngA1, wM_rngA2, wM_enumL, wM_enumT, wM_zipL, wM_zipT, wS_seq, wS_next, wS_brk, wS_cont, wS_bad, wS_if, wS_ret, wS_retN, wS_expr, wS_asg, wS_tg, wS_par, wS_app, wS_put, wS_fldX, wO_bName0, wO_bNameS, wO_bTup, wO_bNil, wO_bCons, wO_fillN, wO_fillS, wO_fillP, putBack_some, putBack_none, putBack_nil, slotSh_s, slotSh_sh, slotSh_ct, slotSh_rc, wipe_nil, wipe_cons, back_nil, back_cons, rest_s, rest_n, rest_sh, rest_ct, rest_rc, add_ii, sub_ii, cmp_ii, eq_ii, ne_ii, is_nn, is_tn, is_ln, is_in, is_bn, is_bb, isn_nn, isn_tn, isn_ln, isn_in, len_l, len_t, int_i, int_b, abs_i, tup_l, tup_t, list_l, list_t, f1_ap, f2_ap, tru_b, tru_t, tru_l, tru_n, item_lstS, item_lstO, item_tupS, wO_map, wO_bind, isi_int_i, isi_int_b, isi_int_n, isi_int_t, isi_int_l, isi_int_s, isi_bool_i, isi_bool_b, isi_bool_n, isi_tl_t, isi_tl_l, isi_tl_i, isi_tl_n, isi_t_t, isi_t_l, isi_l_t, isi_l_l, slice_l, slice_t, shO_sh, blO_bl, blD_bl, intO_i, seq_l, seq_t, seq_f, ownL_l, two_ap, isSh_s, made_ok, toD_sh, toD_lst, mod_ii, mul_ii, div_ii, add_ll, add_tt, List.getElem?_cons_zero, List.getElem?_cons_succ, List.set_cons_zero, List.set_cons_succ, Option.join_some, Option.join_none, List.map_cons, List.map_nil, if_true, if_false, Bool.false_eq_true, reduceIte, Bool.true_or, Bool.or_true, Bool.false_or, Bool.true_and, Bool.and_true, Bool.false_and, Bool.and_false, true_and, and_true, Bool.not_true, Bool.not_false, decide_eq_true_eq, len0, len1, len2, len3, len4, len5, len6, abs2, pos2, wM_disp, wM_consP, isDk_dk, isDk_dt, toD_ct, Ct.toD]
    refine wM_lcF (fun c => (clO c).toD) ((rowsG (2 * (1 + leaves + pre.length)) g).map clL) Option.isSome (fun c => (clO c).toD) ?_
    simp only [wO_some, wO_none, wO_ite, wM_ok, wM_bad, wM_pure, wM_bind, wM_map, wM_iteB, wM_iteM, wM_nameB, wM_nameS, wM_nameV, wM_nameM, wM_asSh, wM_cons, wM_consO, wM_consT, wM_consB, wM_tup, wM_lst, wM_opS, wM_opN, wM_bl, wM_andT, wM_orT, wM_if, wM_andV, wM_orV, wM_tru, wM_neg, wM_part, wM_slice, wM_call, wM_isi, wM_op1, wM_bO, wM_chain, wM_sub, wM_subN, wM_has, wM_callF, wM_make, wM_newK, wM_newT, wM_get1, wM_get2, wM_field, wM_seq, wM_rngA1, wM_rngA2, wM_enumL, wM_enumT, wM_zipL, wM_zipT, wS_seq, wS_next, wS_brk, wS_cont, wS_bad, wS_if, wS_ret, wS_retN, wS_expr, wS_asg, wS_tg, wS_par, wS_app, wS_put, wS_fldX, wO_bName0, wO_bNameS, wO_bTup, wO_bNil, wO_bCons, wO_fillN, wO_fillS, wO_fillP, putBack_some, putBack_none, putBack_nil, slotSh_s, slotSh_sh, slotSh_ct, slotSh_rc, wipe_nil, wipe_cons, back_nil, back_cons, rest_s, rest_n, rest_sh, rest_ct, rest_rc, add_ii, sub_ii, cmp_ii, eq_ii, ne_ii, is_nn, is_tn, is_ln, is_in, is_bn, is_bb, isn_nn, isn_tn, isn_ln, isn_in, len_l, len_t, int_i, int_b, abs_i, tup_l, tup_t, list_l, list_t, f1_ap, f2_ap, tru_b, tru_t, tru_l, tru_n, item_lstS, item_lstO, item_tupS, wO_map, wO_bind, isi_int_i, isi_int_b, isi_int_n, isi_int_t, isi_int_l, isi_int_s, isi_bool_i, isi_bool_b, isi_bool_n, isi_tl_t, isi_tl_l, isi_tl_i, isi_tl_n, isi_t_t, isi_t_l, isi_l_t, isi_l_l, slice_l, slice_t, shO_sh, blO_bl, blD_bl, intO_i, seq_l, seq_t, seq_f, ownL_l, two_ap, isSh_s, made_ok, toD_sh, toD_lst, mod_ii, mul_ii, div_ii, add_ll, add_tt, List.getElem?_cons_zero, List.getElem?_cons_succ, List.set_cons_zero, List.set_cons_succ, Option.join_some, Option.join_none, List.map_cons, List.map_nil, if_true, if_false, Bool.false_eq_true, reduceIte, Bool.true_or, Bool.or_true, Bool.false_or, Bool.true_and, Bool.and_true, Bool.false_and, Bool.and_false, true_and, and_true, Bool.not_true, Bool.not_false, decide_eq_true_eq, len0, len1, len2, len3, len4, len5, len6, abs2, pos2, wM_disp, wM_consP, isDk_dk, isDk_dt, toD_ct, Ct.toD]
    refine wM_lcM (fun r => .tup (r.map natD)) (rowsG (2 * (1 + leaves + pre.length)) g) (fun r => (clO (clL r)).toD) ?_
    simp only [wO_some, wO_none, wO_ite, wM_ok, wM_bad, wM_pure, wM_bind, wM_map, wM_iteB, wM_iteM, wM_nameB, wM_nameS, wM_nameV, wM_nameM, wM_asSh, wM_cons, wM_consO, wM_consT, wM_consB, wM_tup, wM_lst, wM_opS, wM_opN, wM_bl, wM_andT, wM_orT, wM_if, wM_andV, wM_orV, wM_tru, wM_neg, wM_part, wM_slice, wM_call, wM_isi, wM_op1, wM_bO, wM_chain, wM_sub, wM_subN, wM_has, wM_callF, wM_make, wM_newK, wM_newT, wM_get1, wM_get2, wM_field, wM_seq, wM_rngA1, wM_rngA2, wM_enumL, wM_enumT, wM_zipL, wM_zipT, wS_seq, wS_next, wS_brk, wS_cont, wS_bad, wS_if, wS_ret, wS_retN, wS_expr, wS_asg, wS_tg, wS_par, wS_app, wS_put, wS_fldX, wO_bName0, wO_bNameS, wO_bTup, wO_bNil, wO_bCons, wO_fillN, wO_fillS, wO_fillP, putBack_some, putBack_none, putBack_nil, slotSh_s, slotSh_sh, slotSh_ct, slotSh_rc, wipe_nil, wipe_cons, back_nil, back_cons, rest_s, rest_n, rest_sh, rest_ct, rest_rc, add_ii, sub_ii, cmp_ii, eq_ii, ne_ii, is_nn, is_tn, is_ln, is_in, is_bn, is_bb, isn_nn, isn_tn, isn_ln, isn_in, len_l, len_t, int_i, int_b, abs_i, tup_l, tup_t, list_l, list_t, f1_ap, f2_ap, tru_b, tru_t, tru_l, tru_n, item_lstS, item_lstO, item_tupS, wO_map, wO_bind, isi_int_i, isi_int_b, isi_int_n, isi_int_t, isi_int_l, isi_int_s, isi_bool_i, isi_bool_b, isi_bool_n, isi_tl_t, isi_tl_l, isi_tl_i, isi_tl_n, isi_t_t, isi_t_l, isi_l_t, isi_l_l, slice_l, slice_t, shO_sh, blO_bl, blD_bl, intO_i, seq_l, seq_t, seq_f, ownL_l, two_ap, isSh_s, made_ok, toD_sh, toD_lst, mod_ii, mul_ii, div_ii, add_ll, add_tt, List.getElem?_cons_zero, List.getElem?_cons_succ, List.set_cons_zero, List.set_cons_succ, Option.join_some, Option.join_none, List.map_cons, List.map_nil, if_true, if_false, Bool.false_eq_true, reduceIte, Bool.true_or, Bool.or_true, Bool.false_or, Bool.true_and, Bool.and_true, Bool.false_and, Bool.and_false, true_and, and_true, Bool.not_true, Bool.not_false, decide_eq_true_eq, len0, len1, len2, len3, len4, len5, len6, abs2, pos2, wM_disp, wM_consP, isDk_dk, isDk_dt, toD_ct, Ct.toD]
    have eg : 2 * (1 + (leaves : Int) + (pre.length : Int)) = ((2 * (1 + leaves + pre.length) : Nat) : Int) := by omega
    rw [eg]
    refine ⟨rfl, by show 3 ≤ 16777216; decide, fun r hr => ?_, ?_⟩
    · obtain ⟨r1, r2⟩ := rowsG_ok hk.1 hk.2 hr
      refine clause_of_w (.inl rfl) (by omega) (fun l hl => by have := r2 l hl; omega) ?_
      simp only [wO_some, wO_none, wO_ite, wM_ok, wM_bad, wM_pure, wM_bind, wM_map, wM_iteB, wM_iteM, wM_nameB, wM_nameS, wM_nameV, wM_nameM, wM_asSh, wM_cons, wM_consO, wM_consT, wM_consB, wM_tup, wM_lst, wM_opS, wM_opN, wM_bl, wM_andT, wM_orT, wM_if, wM_andV, wM_orV, wM_tru, wM_neg, wM_part, wM_slice, wM_call, wM_isi, wM_op1, wM_bO, wM_chain, wM_sub, wM_subN, wM_has, wM_callF, wM_make, wM_newK, wM_newT, wM_get1, wM_get2, wM_field, wM_seq, wM_rngA1, wM_rngA2, wM_enumL, wM_enumT, wM_zipL, wM_zipT, wS_seq, wS_next, wS_brk, wS_cont, wS_bad, wS_if, wS_ret, wS_retN, wS_expr, wS_asg, wS_tg, wS_par, wS_app, wS_put, wS_fldX, wO_bName0, wO_bNameS, wO_bTup, wO_bNil, wO_bCons, wO_fillN, wO_fillS, wO_fillP, putBack_some, putBack_none, putBack_nil, slotSh_s, slotSh_sh, slotSh_ct, slotSh_rc, wipe_nil, wipe_cons, back_nil, back_cons, rest_s, rest_n, rest_sh, rest_ct, rest_rc, add_ii, sub_ii, cmp_ii, eq_ii, ne_ii, is_nn, is_tn, is_ln, is_in, is_bn, is_bb, isn_nn, isn_tn, isn_ln, isn_in, len_l, len_t, int_i, int_b, abs_i, tup_l, tup_t, list_l, list_t, f1_ap, f2_ap, tru_b, tru_t, tru_l, tru_n, item_lstS, item_lstO, item_tupS, wO_map, wO_bind, isi_int_i, isi_int_b, isi_int_n, isi_int_t, isi_int_l, isi_int_s, isi_bool_i, isi_bool_b, isi_bool_n, isi_tl_t, isi_tl_l, isi_tl_i, isi_tl_n, isi_t_t, isi_t_l, isi_l_t, isi_l_l, slice_l, slice_t, shO_sh, blO_bl, blD_bl, intO_i, seq_l, seq_t, seq_f, ownL_l, two_ap, isSh_s, made_ok, toD_sh, toD_lst, mod_ii, mul_ii, div_ii, add_ll, add_tt, List.getElem?_cons_zero, List.getElem?_cons_succ, List.set_cons_zero, List.set_cons_succ, Option.join_some, Option.join_none, List.map_cons, List.map_nil, if_true, if_false, Bool.false_eq_true, reduceIte, Bool.true_or, Bool.or_true, Bool.false_or, Bool.true_and, Bool.and_true, Bool.false_and, Bool.and_false, true_and, and_true, Bool.not_true, Bool.not_false, decide_eq_true_eq, len0, len1, len2, len3, len4, len5, len6, abs2, pos2, wM_disp, wM_consP, isDk_dk, isDk_dt, toD_ct, Ct.toD]
    · refine ⟨by rw [List.map_map]; rfl, by rw [List.length_map]; show 3 ≤ 16777216; decide, fun c hc => ?_, ?_⟩
      · cases c with
        | none => simp only [clO, wO_some, wO_none, wO_ite, wM_ok, wM_bad, wM_pure, wM_bind, wM_map, wM_iteB, wM_iteM, wM_nameB, wM_nameS, wM_nameV, wM_nameM, wM_asSh, wM_cons, wM_consO, wM_consT, wM_consB, wM_tup, wM_lst, wM_opS, wM_opN, wM_bl, wM_andT, wM_orT, wM_if, wM_andV, wM_orV, wM_tru, wM_neg, wM_part, wM_slice, wM_call, wM_isi, wM_op1, wM_bO, wM_chain, wM_sub, wM_subN, wM_has, wM_callF, wM_make, wM_newK, wM_newT, wM_get1, wM_get2, wM_field, wM_seq, wM_rngA1, wM_rngA2, wM_enumL, wM_enumT, wM_zipL, wM_zipT, wS_seq, wS_next, wS_brk, wS_cont, wS_bad, wS_if, wS_ret, wS_retN, wS_expr, wS_asg, wS_tg, wS_par, wS_app, wS_put, wS_fldX, wO_bName0, wO_bNameS, wO_bTup, wO_bNil, wO_bCons, wO_fillN, wO_fillS, wO_fillP, putBack_some, putBack_none, putBack_nil, slotSh_s, slotSh_sh, slotSh_ct, slotSh_rc, wipe_nil, wipe_cons, back_nil, back_cons, rest_s, rest_n, rest_sh, rest_ct, rest_rc, add_ii, sub_ii, cmp_ii, eq_ii, ne_ii, is_nn, is_tn, is_ln, is_in, is_bn, is_bb, isn_nn, isn_tn, isn_ln, isn_in, len_l, len_t, int_i, int_b, abs_i, tup_l, tup_t, list_l, list_t, f1_ap, f2_ap, tru_b, tru_t, tru_l, tru_n, item_lstS, item_lstO, item_tupS, wO_map, wO_bind, isi_int_i, isi_int_b, isi_int_n, isi_int_t, isi_int_l, isi_int_s, isi_bool_i, isi_bool_b, isi_bool_n, isi_tl_t, isi_tl_l, isi_tl_i, isi_tl_n, isi_t_t, isi_t_l, isi_l_t, isi_l_l, slice_l, slice_t, shO_sh, blO_bl, blD_bl, intO_i, seq_l, seq_t, seq_f, ownL_l, two_ap, isSh_s, made_ok, toD_sh, toD_lst, mod_ii, mul_ii, div_ii, add_ll, add_tt, List.getElem?_cons_zero, List.getElem?_cons_succ, List.set_cons_zero, List.set_cons_succ, Option.join_some, Option.join_none, List.map_cons, List.map_nil, if_true, if_false, Bool.false_eq_true, reduceIte, Bool.true_or, Bool.or_true, Bool.false_or, Bool.true_and, Bool.and_true, Bool.false_and, Bool.and_false, true_and, and_true, Bool.not_true, Bool.not_false, decide_eq_true_eq, len0, len1, len2, len3, len4, len5, len6, abs2, pos2, wM_disp, wM_consP, isDk_dk, isDk_dt, toD_ct, Ct.toD]; exact ⟨rfl, fun _ => trivial, fun _ => trivial⟩
        | some c => simp only [clO, wO_some, wO_none, wO_ite, wM_ok, wM_bad, wM_pure, wM_bind, wM_map, wM_iteB, wM_iteM, wM_nameB, wM_nameS, wM_nameV, wM_nameM, wM_asSh, wM_cons, wM_consO, wM_consT, wM_consB, wM_tup, wM_lst, wM_opS, wM_opN, wM_bl, wM_andT, wM_orT, wM_if, wM_andV, wM_orV, wM_tru, wM_neg, wM_part, wM_slice, wM_call, wM_isi, wM_op1, wM_bO, wM_chain, wM_sub, wM_subN, wM_has, wM_callF, wM_make, wM_newK, wM_newT, wM_get1, wM_get2, wM_field, wM_seq, wM_rngA1, wM_rngA2, wM_enumL, wM_enumT, wM_zipL, wM_zipT, wS_seq, wS_next, wS_brk, wS_cont, wS_bad, wS_if, wS_ret, wS_retN, wS_expr, wS_asg, wS_tg, wS_par, wS_app, wS_put, wS_fldX, wO_bName0, wO_bNameS, wO_bTup, wO_bNil, wO_bCons, wO_fillN, wO_fillS, wO_fillP, putBack_some, putBack_none, putBack_nil, slotSh_s, slotSh_sh, slotSh_ct, slotSh_rc, wipe_nil, wipe_cons, back_nil, back_cons, rest_s, rest_n, rest_sh, rest_ct, rest_rc, add_ii, sub_ii, cmp_ii, eq_ii, ne_ii, is_nn, is_tn, is_ln, is_in, is_bn, is_bb, isn_nn, isn_tn, isn_ln, isn_in, len_l, len_t, int_i, int_b, abs_i, tup_l, tup_t, list_l, list_t, f1_ap, f2_ap, tru_b, tru_t, tru_l, tru_n, item_lstS, item_lstO, item_tupS, wO_map, wO_bind, isi_int_i, isi_int_b, isi_int_n, isi_int_t, isi_int_l, isi_int_s, isi_bool_i, isi_bool_b, isi_bool_n, isi_tl_t, isi_tl_l, isi_tl_i, isi_tl_n, isi_t_t, isi_t_l, isi_l_t, isi_l_l, slice_l, slice_t, shO_sh, blO_bl, blD_bl, intO_i, seq_l, seq_t, seq_f, ownL_l, two_ap, isSh_s, made_ok, toD_sh, toD_lst, mod_ii, mul_ii, div_ii, add_ll, add_tt, List.getElem?_cons_zero, List.getElem?_cons_succ, List.set_cons_zero, List.set_cons_succ, Option.join_some, Option.join_none, List.map_cons, List.map_nil, if_true, if_false, Bool.false_eq_true, reduceIte, Bool.true_or, Bool.or_true, Bool.false_or, Bool.true_and, Bool.and_true, Bool.false_and, Bool.and_false, true_and, and_true, Bool.not_true, Bool.not_false, decide_eq_true_eq, len0, len1, len2, len3, len4, len5, len6, abs2, pos2, wM_disp, wM_consP, isDk_dk, isDk_dt, toD_ct, Ct.toD]; exact ⟨rfl, fun _ => trivial, fun _ => trivial⟩
      · rw [fm_some]
        have hr3 := rowsG_fm (gate := 2 * (1 + leaves + pre.length)) (g := g)
        simp only [wO_some, wO_none, wO_ite, wM_ok, wM_bad, wM_pure, wM_bind, wM_map, wM_iteB, wM_iteM, wM_nameB, wM_nameS, wM_nameV, wM_nameM, wM_asSh, wM_cons, wM_consO, wM_consT, wM_consB, wM_tup, wM_lst, wM_opS, wM_opN, wM_bl, wM_andT, wM_orT, wM_if, wM_andV, wM_orV, wM_tru, wM_neg, wM_part, wM_slice, wM_call, wM_isi, wM_op1, wM_bO, wM_chain, wM_sub, wM_subN, wM_has, wM_callF, wM_make, wM_newK, wM_newT, wM_get1, wM_get2, wM_field, wM_seq, wM_rngA1, wM_rngA2, wM_enumL, wM_enumT, wM_zipL, wM_zipT, wS_seq, wS_next, wS_brk, wS_cont, wS_bad, wS_if, wS_ret, wS_retN, wS_expr, wS_asg, wS_tg, wS_par, wS_app, wS_put, wS_fldX, wO_bName0, wO_bNameS, wO_bTup, wO_bNil, wO_bCons, wO_fillN, wO_fillS, wO_fillP, putBack_some, putBack_none, putBack_nil, slotSh_s, slotSh_sh, slotSh_ct, slotSh_rc, wipe_nil, wipe_cons, back_nil, back_cons, rest_s, rest_n, rest_sh, rest_ct, rest_rc, add_ii, sub_ii, cmp_ii, eq_ii, ne_ii, is_nn, is_tn, is_ln, is_in, is_bn, is_bb, isn_nn, isn_tn, isn_ln, isn_in, len_l, len_t, int_i, int_b, abs_i, tup_l, tup_t, list_l, list_t, f1_ap, f2_ap, tru_b, tru_t, tru_l, tru_n, item_lstS, item_lstO, item_tupS, wO_map, wO_bind, isi_int_i, isi_int_b, isi_int_n, isi_int_t, isi_int_l, isi_int_s, isi_bool_i, isi_bool_b, isi_bool_n, isi_tl_t, isi_tl_l, isi_tl_i, isi_tl_n, isi_t_t, isi_t_l, isi_l_t, isi_l_l, slice_l, slice_t, shO_sh, blO_bl, blD_bl, intO_i, seq_l, seq_t, seq_f, ownL_l, two_ap, isSh_s, made_ok, toD_sh, toD_lst, mod_ii, mul_ii, div_ii, add_ll, add_tt, List.getElem?_cons_zero, List.getElem?_cons_succ, List.set_cons_zero, List.set_cons_succ, Option.join_some, Option.join_none, List.map_cons, List.map_nil, if_true, if_false, Bool.false_eq_true, reduceIte, Bool.true_or, Bool.or_true, Bool.false_or, Bool.true_and, Bool.and_true, Bool.false_and, Bool.and_false, true_and, and_true, Bool.not_true, Bool.not_false, decide_eq_true_eq, len0, len1, len2, len3, len4, len5, len6, abs2, pos2, wM_disp, wM_consP, isDk_dk, isDk_dt, toD_ct, Ct.toD, List.length_map]
        rw [clsL_snoc, List.map_append]
        exact ⟨by show _ ≤ 16777216; omega, _, _, _, _, _, rfl⟩
  · rintro _ ⟨a, b, c, d, e, rfl⟩
    simp only [wO_some, wO_none, wO_ite, wM_ok, wM_bad, wM_pure, wM_bind, wM_map, wM_iteB, wM_iteM, wM_nameB, wM_nameS, wM_nameV, wM_nameM, wM_asSh, wM_cons, wM_consO, wM_consT, wM_consB, wM_tup, wM_lst, wM_opS, wM_opN, wM_bl, wM_andT, wM_orT, wM_if, wM_andV, wM_orV, wM_tru, wM_neg, wM_part, wM_slice, wM_call, wM_isi, wM_op1, wM_bO, wM_chain, wM_sub, wM_subN, wM_has, wM_callF, wM_make, wM_newK, wM_newT, wM_get1, wM_get2, wM_field, wM_seq, wM_rngA1, wM_rngA2, wM_enumL, wM_enumT, wM_zipL, wM_zipT, wS_seq, wS_next, wS_brk, wS_cont, wS_bad, wS_if, wS_ret, wS_retN, wS_expr, wS_asg, wS_tg, wS_par, wS_app, wS_put, wS_fldX, wO_bName0, wO_bNameS, wO_bTup, wO_bNil, wO_bCons, wO_fillN, wO_fillS, wO_fillP, putBack_some, putBack_none, putBack_nil, slotSh_s, slotSh_sh, slotSh_ct, slotSh_rc, wipe_nil, wipe_cons, back_nil, back_cons, rest_s, rest_n, rest_sh, rest_ct, rest_rc, add_ii, sub_ii, cmp_ii, eq_ii, ne_ii, is_nn, is_tn, is_ln, is_in, is_bn, is_bb, isn_nn, isn_tn, isn_ln, isn_in, len_l, len_t, int_i, int_b, abs_i, tup_l, tup_t, list_l, list_t, f1_ap, f2_ap, tru_b, tru_t, tru_l, tru_n, item_lstS, item_lstO, item_tupS, wO_map, wO_bind, isi_int_i, isi_int_b, isi_int_n, isi_int_t, isi_int_l, isi_int_s, isi_bool_i, isi_bool_b, isi_bool_n, isi_tl_t, isi_tl_l, isi_tl_i, isi_tl_n, isi_t_t, isi_t_l, isi_l_t, isi_l_l, slice_l, slice_t, shO_sh, blO_bl, blD_bl, intO_i, seq_l, seq_t, seq_f, ownL_l, two_ap, isSh_s, made_ok, toD_sh, toD_lst, mod_ii, mul_ii, div_ii, add_ll, add_tt, List.getElem?_cons_zero, List.getElem?_cons_succ, List.set_cons_zero, List.set_cons_succ, Option.join_some, Option.join_none, List.map_cons, List.map_nil, if_true, if_false, Bool.false_eq_true, reduceIte, Bool.true_or, Bool.or_true, Bool.false_or, Bool.true_and, Bool.and_true, Bool.false_and, Bool.and_false, true_and, and_true, Bool.not_true, Bool.not_false, decide_eq_true_eq]
    exact q
theorem own_clauses_w {leaves : Nat} {gs : List (Nat × Nat)} (hg : GOk leaves gs) (hl : leaves ≤ 500) (hn : gs.length ≤ 500) (q : Q (.sh (.tup ((clsL leaves gs).map cD))) [some (.sh (natD leaves)), some (.sh (.tup (gs.map gD)))]) :
    wM (sem__law_own_clauses [.sh (natD leaves), .sh (.tup (gs.map gD))]) Q X := by
  refine sem_w [some (.sh (natD leaves)), some (.sh (.tup (gs.map gD))), none, none, none, none, none, none, none] rfl rfl ?_
  unfold d__law_own_clauses
  simp only [wO_some, wO_none, wO_ite, wM_ok, wM_bad, wM_pure, wM_bind, wM_map, wM_iteB, wM_iteM, wM_nameB, wM_nameS, wM_nameV, wM_nameM, wM_asSh, wM_cons, wM_consO, wM_consT, wM_consB, wM_tup, wM_lst, wM_opS, wM_opN, wM_bl, wM_andT, wM_orT, wM_if, wM_andV, wM_orV, wM_tru, wM_neg, wM_part, wM_slice, wM_call, wM_isi, wM_op1, wM_bO, wM_chain, wM_sub, wM_subN, wM_has, wM_callF, wM_make, wM_newK, wM_newT, wM_get1, wM_get2, wM_field, wM_seq, wM_rngA1, wM_rngA2, wM_enumL, wM_enumT, wM_zipL, wM_zipT, wS_seq, wS_next, wS_brk, wS_cont, wS_bad, wS_if, wS_ret, wS_retN, wS_expr, wS_asg, wS_tg, wS_par, wS_app, wS_put, wS_fldX, wO_bName0, wO_bNameS, wO_bTup, wO_bNil, wO_bCons, wO_fillN, wO_fillS, wO_fillP, putBack_some, putBack_none, putBack_nil, slotSh_s, slotSh_sh, slotSh_ct, slotSh_rc, wipe_nil, wipe_cons, back_nil, back_cons, rest_s, rest_n, rest_sh, rest_ct, rest_rc, add_ii, sub_ii, cmp_ii, eq_ii, ne_ii, is_nn, is_tn, is_ln, is_in, is_bn, is_bb, isn_nn, isn_tn, isn_ln, isn_in, len_l, len_t, int_i, int_b, abs_i, tup_l, tup_t, list_l, list_t, f1_ap, f2_ap, tru_b, tru_t, tru_l, tru_n, item_lstS, item_lstO, item_tupS, wO_map, wO_bind, isi_int_i, isi_int_b, isi_int_n, isi_int_t, isi_int_l, isi_int_s, isi_bool_i, isi_bool_b, isi_bool_n, isi_tl_t, isi_tl_l, isi_tl_i, isi_tl_n, isi_t_t, isi_t_l, isi_l_t, isi_l_l, slice_l, slice_t, shO_sh, blO_bl, blD_bl, intO_i, seq_l, seq_t, seq_f, ownL_l, two_ap, isSh_s, made_ok, toD_sh, toD_lst, mod_ii, mul_ii, div_ii, add_ll, add_tt, List.getElem?_cons_zero, List.getElem?_cons_succ, List.set_cons_zero, List.set_cons_succ, Option.join_some, Option.join_none, List.map_cons, List.map_nil, if_true, if_false, Bool.false_eq_true, reduceIte, Bool.true_or, Bool.or_true, Bool.false_or, Bool.true_and, Bool.and_true, Bool.false_and, Bool.and_false, true_and, and_true, Bool.not_true, Bool.not_false, decide_eq_true_eq, len0, len1, len2, len3, len4, len5, len6, abs2, pos2, wM_disp, wM_consP, isDk_dk, isDk_dt, toD_ct, Ct.toD]
  refine wS_forE gD gs (fun pre ρ => ∃ b c d e f h, ρ = [some (.sh (natD leaves)), some (.sh (.tup (gs.map gD))), some (.lst ((clsL leaves pre).map cD)), b, c, d, e, f, h]) ?_ ?_ ?_
  · simp only [wO_some, wO_none, wO_ite, wM_ok, wM_bad, wM_pure, wM_bind, wM_map, wM_iteB, wM_iteM, wM_nameB, wM_nameS, wM_nameV, wM_nameM, wM_asSh, wM_cons, wM_consO, wM_consT, wM_consB, wM_tup, wM_lst, wM_opS, wM_opN, wM_bl, wM_andT, wM_orT, wM_if, wM_andV, wM_orV, wM_tru, wM_neg, wM_part, wM_slice, wM_call, wM_isi, wM_op1, wM_bO, wM_chain, wM_sub, wM_subN, wM_has, wM_callF, wM_make, wM_newK, wM_newT, wM_get1, wM_get2, wM_field, wM_seq, wM_rngA1, wM_rngA2, wM_enumL, wM_enumT, wM_zipL, wM_zipT, wS_seq, wS_next, wS_brk, wS_cont, wS_bad, wS_if, wS_ret, wS_retN, wS_expr, wS_asg, wS_tg, wS_par, wS_app, wS_put, wS_fldX, wO_bName0, wO_bNameS, wO_bTup, wO_bNil, wO_bCons, wO_fillN, wO_fillS, wO_fillP, putBack_some, putBack_none, putBack_nil, slotSh_s, slotSh_sh, slotSh_ct, slotSh_rc, wipe_nil, wipe_cons, back_nil, back_cons, rest_s, rest_n, rest_sh, rest_ct, rest_rc, add_ii, sub_ii, cmp_ii, eq_ii, ne_ii, is_nn, is_tn, is_ln, is_in, is_bn, is_bb, isn_nn, isn_tn, isn_ln, isn_in, len_l, len_t, int_i, int_b, abs_i, tup_l, tup_t, list_l, list_t, f1_ap, f2_ap, tru_b, tru_t, tru_l, tru_n, item_lstS, item_lstO, item_tupS, wO_map, wO_bind, isi_int_i, isi_int_b, isi_int_n, isi_int_t, isi_int_l, isi_int_s, isi_bool_i, isi_bool_b, isi_bool_n, isi_tl_t, isi_tl_l, isi_tl_i, isi_tl_n, isi_t_t, isi_t_l, isi_l_t, isi_l_l, slice_l, slice_t, shO_sh, blO_bl, blD_bl, intO_i, seq_l, seq_t, seq_f, ownL_l, two_ap, isSh_s, made_ok, toD_sh, toD_lst, mod_ii, mul_ii, div_ii, add_ll, add_tt, List.getElem?_cons_zero, List.getElem?_cons_succ, List.set_cons_zero, List.set_cons_succ, Option.join_some, Option.join_none, List.map_cons, List.map_nil, if_true, if_false, Bool.false_eq_true, reduceIte, Bool.true_or, Bool.or_true, Bool.false_or, Bool.true_and, Bool.and_true, Bool.false_and, Bool.and_false, true_and, and_true, Bool.not_true, Bool.not_false, decide_eq_true_eq, len0, len1, len2, len3, len4, len5, len6, abs2, pos2, wM_disp, wM_consP, isDk_dk, isDk_dt, toD_ct, Ct.toD]
    exact ⟨none, none, none, none, none, none, rfl⟩
  · rintro pre g post _ ee ⟨b, c, d, e, f, h, rfl⟩
    have hk := hg pre g post ee
    have hp : pre.length < gs.length := by rw [ee]; simp
    have hcl := clsL_len (leaves := leaves) (gs := pre)
    simp only [natD, wO_some, wO_none, wO_ite, wM_ok, wM_bad, wM_pure, wM_bind, wM_map, wM_iteB, wM_iteM, wM_nameB, wM_nameS, wM_nameV, wM_nameM, wM_asSh, wM_cons, wM_consO, wM_consT, wM_consB, wM_tup, wM_lst, wM_opS, wM_opN, wM_bl, wM_andT, wM_orT, wM_if, wM_andV, wM_orV, wM_tru, wM_neg, wM_part, wM_slice, wM_call, wM_isi, wM_op1, wM_bO, wM_chain, wM_sub, wM_subN, wM_has, wM_callF, wM_make, wM_newK, wM_newT, wM_get1, wM_get2, wM_field, wM_seq, wM_rngA1, wM_rngA2, wM_enumL, wM_enumT, wM_zipL, wM_zipT, wS_seq, wS_next, wS_brk, wS_cont, wS_bad, wS_if, wS_ret, wS_retN, wS_expr, wS_asg, wS_tg, wS_par, wS_app, wS_put, wS_fldX, wO_bName0, wO_bNameS, wO_bTup, wO_bNil, wO_bCons, wO_fillN, wO_fillS, wO_fillP, putBack_some, putBack_none, putBack_nil, slotSh_s, slotSh_sh, slotSh_ct, slotSh_rc, wipe_nil, wipe_cons, back_nil, back_cons, rest_s, rest_n, rest_sh, rest_ct, rest_rc, add_ii, sub_ii, cmp_ii, eq_ii, ne_ii, is_nn, is_tn, is_ln, is_in, is_bn, is_bb, isn_nn, isn_tn, isn_ln, isn_in, len_l, len_t, int_i, int_b, abs_i, tup_l, tup_t, list_l, list_t, f1_ap, f2_ap, tru_b, tru_t, tru_l, tru_n, item_lstS, item_lstO, item_tupS, wO_map, wO_bind, isi_int_i, isi_int_b, isi_int_n, isi_int_t, isi_int_l, isi_int_s, isi_bool_i, isi_bool_b, isi_bool_n, isi_tl_t, isi_tl_l, isi_tl_i, isi_tl_n, isi_t_t, isi_t_l, isi_l_t, isi_l_l, slice_l, slice_t, shO_sh, blO_bl, blD_bl, intO_i, seq_l, seq_t, seq_f, ownL_l, two_ap, isSh_s, made_ok, toD_sh, toD_lst, mod_ii, mul_ii, div_ii, add_ll, add_tt, List.getElem?_cons_zero, List.getElem?_cons_succ, List.set_cons_zero, List.set_cons_succ, Option.join_some, Option.join_none, List.map_cons, List.map_nil, if_true, if_false, Bool.false_eq_true, reduceIte, Bool.true_or, Bool.or_true, Bool.false_or, Bool.true_and, Bool.and_true, Bool.false_and, Bool.and_false, true_and, and_true, Bool.not_true, Bool.not_false, decide_eq_true_eq, len0, len1, len2, len3, len4, len5, len6, abs2, pos2, wM_disp, wM_consP, isDk_dk, isDk_dt, toD_ct, Ct.toD, gD]
    refine ⟨small512 (by omega) (by omega), ?_⟩
    refine wS_forL (fun r => .tup (r.map natD)) (rowsG (2 * (1 + leaves + pre.length)) g) (fun rp ρ => ∃ f h, ρ = [some (.sh (natD leaves)), some (.sh (.tup (gs.map gD))), some (.lst ((clsL leaves pre ++ rp.filterMap clL).map cD)), some (.sh (natD pre.length)), some (.sh (natD g.1)), some (.sh (natD g.2)), some (.sh (natD (2 * (1 + leaves + pre.length)))), f, h]) ?_ ?_ ?_
    · simp only [wO_some, wO_none, wO_ite, wM_ok, wM_bad, wM_pure, wM_bind, wM_map, wM_iteB, wM_iteM, wM_nameB, wM_nameS, wM_nameV, wM_nameM, wM_asSh, wM_cons, wM_consO, wM_consT, wM_consB, wM_tup, wM_lst, wM_opS, wM_opN, wM_bl, wM_andT, wM_orT, wM_if, wM_andV, wM_orV, wM_tru, wM_neg, wM_part, wM_slice, wM_call, wM_isi, wM_op1, wM_bO, wM_chain, wM_sub, wM_subN, wM_has, wM_callF, wM_make, wM_newK, wM_newT, wM_get1, wM_get2, wM_field, wM_seq, wM_rngA1, wM_rngA2, wM_enumL, wM_enumT, wM_zipL, wM_zipT, wS_seq, wS_next, wS_brk, wS_cont, wS_bad, wS_if, wS_ret, wS_retN, wS_expr, wS_asg, wS_tg, wS_par, wS_app, wS_put, wS_fldX, wO_bName0, wO_bNameS, wO_bTup, wO_bNil, wO_bCons, wO_fillN, wO_fillS, wO_fillP, putBack_some, putBack_none, putBack_nil, slotSh_s, slotSh_sh, slotSh_ct, slotSh_rc, wipe_nil, wipe_cons, back_nil, back_cons, rest_s, rest_n, rest_sh, rest_ct, rest_rc, add_ii, sub_ii, cmp_ii, eq_ii, ne_ii, is_nn, is_tn, is_ln, is_in, is_bn, is_bb, isn_nn, isn_tn, isn_ln, isn_in, len_l, len_t, int_i, int_b, abs_i, tup_l, tup_t, list_l, list_t, f1_ap, f2_ap, tru_b, tru_t, tru_l, tru_n, item_lstS, item_lstO, item_tupS, wO_map, wO_bind, isi_int_i, isi_int_b, isi_int_n, isi_int_t, isi_int_l, isi_int_s, isi_bool_i, isi_bool_b, isi_bool_n, isi_tl_t, isi_tl_l, isi_tl_i, isi_tl_n, isi_t_t, isi_t_l, isi_l_t, isi_l_l, slice_l, slice_t, shO_sh, blO_bl, blD_bl, intO_i, seq_l, seq_t, seq_f, ownL_l, two_ap, isSh_s, made_ok, toD_sh, toD_lst, mod_ii, mul_ii, div_ii, add_ll, add_tt, List.getElem?_cons_zero, List.getElem?_cons_succ, List.set_cons_zero, List.set_cons_succ, Option.join_some, Option.join_none, List.map_cons, List.map_nil, if_true, if_false, Bool.false_eq_true, reduceIte, Bool.true_or, Bool.or_true, Bool.false_or, Bool.true_and, Bool.and_true, Bool.false_and, Bool.and_false, true_and, and_true, Bool.not_true, Bool.not_false, decide_eq_true_eq, len0, len1, len2, len3, len4, len5, len6, abs2, pos2, wM_disp, wM_consP, isDk_dk, isDk_dt, toD_ct, Ct.toD]
      refine flip_w (by omega) ?_
      simp only [natD, wO_some, wO_none, wO_ite, wM_ok, wM_bad, wM_pure, wM_bind, wM_map, wM_iteB, wM_iteM, wM_nameB, wM_nameS, wM_nameV, wM_nameM, wM_asSh, wM_cons, wM_consO, wM_consT, wM_consB, wM_tup, wM_lst, wM_opS, wM_opN, wM_bl, wM_andT, wM_orT, wM_if, wM_andV, wM_orV, wM_tru, wM_neg, wM_part, wM_slice, wM_call, wM_isi, wM_op1, wM_bO, wM_chain, wM_sub, wM_subN, wM_has, wM_callF, wM_make, wM_newK, wM_newT, wM_get1, wM_get2, wM_field, wM_seq, wM_rngA1, wM_rngA2, wM_enumL, wM_enumT, wM_zipL, wM_zipT, wS_seq, wS_next, wS_brk, wS_cont, wS_bad, wS_if, wS_ret, wS_retN, wS_expr, wS_asg, wS_tg, wS_par, wS_app, wS_put, wS_fldX, wO_bName0, wO_bNameS, wO_bTup, wO_bNil, wO_bCons, wO_fillN, wO_fillS, wO_fillP, putBack_some, putBack_none, putBack_nil, slotSh_s, slotSh_sh, slotSh_ct, slotSh_rc, wipe_nil, wipe_cons, back_nil, back_cons, rest_s, rest_n, rest_sh, rest_ct, rest_rc, add_ii, sub_ii, cmp_ii, eq_ii, ne_ii, is_nn, is_tn, is_ln, is_in, is_bn, is_bb, isn_nn, isn_tn, isn_ln, isn_in, len_l, len_t, int_i, int_b, abs_i, tup_l, tup_t, list_l, list_t, f1_ap, f2_ap, tru_b, tru_t, tru_l, tru_n, item_lstS, item_lstO, item_tupS, wO_map, wO_bind, isi_int_i, isi_int_b, isi_int_n, isi_int_t, isi_int_l, isi_int_s, isi_bool_i, isi_bool_b, isi_bool_n, isi_tl_t, isi_tl_l, isi_tl_i, isi_tl_n, isi_t_t, isi_t_l, isi_l_t, isi_l_l, slice_l, slice_t, shO_sh, blO_bl, blD_bl, intO_i, seq_l, seq_t, seq_f, ownL_l, two_ap, isSh_s, made_ok, toD_sh, toD_lst, mod_ii, mul_ii, div_ii, add_ll, add_tt, List.getElem?_cons_zero, List.getElem?_cons_succ, List.set_cons_zero, List.set_cons_succ, Option.join_some, Option.join_none, List.map_cons, List.map_nil, if_true, if_false, Bool.false_eq_true, reduceIte, Bool.true_or, Bool.or_true, Bool.false_or, Bool.true_and, Bool.and_true, Bool.false_and, Bool.and_false, true_and, and_true, Bool.not_true, Bool.not_false, decide_eq_true_eq, len0, len1, len2, len3, len4, len5, len6, abs2, pos2, wM_disp, wM_consP, isDk_dk, isDk_dt, toD_ct, Ct.toD]
      refine flip_w (by omega) ?_
      simp only [natD, wO_some, wO_none, wO_ite, wM_ok, wM_bad, wM_pure, wM_bind, wM_map, wM_iteB, wM_iteM, wM_nameB, wM_nameS, wM_nameV, wM_nameM, wM_asSh, wM_cons, wM_consO, wM_consT, wM_consB, wM_tup, wM_lst, wM_opS, wM_opN, wM_bl, wM_andT, wM_orT, wM_if, wM_andV, wM_orV, wM_tru, wM_neg, wM_part, wM_slice, wM_call, wM_isi, wM_op1, wM_bO, wM_chain, wM_sub, wM_subN, wM_has, wM_callF, wM_make, wM_newK, wM_newT, wM_get1, wM_get2, wM_field, wM_seq, wM_rngA1, wM_rngA2, wM_enumL, wM_enumT, wM_zipL, wM_zipT, wS_seq, wS_next, wS_brk, wS_cont, wS_bad, wS_if, wS_ret, wS_retN, wS_expr, wS_asg, wS_tg, wS_par, wS_app, wS_put, wS_fldX, wO_bName0, wO_bNameS, wO_bTup, wO_bNil, wO_bCons, wO_fillN, wO_fillS, wO_fillP, putBack_some, putBack_none, putBack_nil, slotSh_s, slotSh_sh, slotSh_ct, slotSh_rc, wipe_nil, wipe_cons, back_nil, back_cons, rest_s, rest_n, rest_sh, rest_ct, rest_rc, add_ii, sub_ii, cmp_ii, eq_ii, ne_ii, is_nn, is_tn, is_ln, is_in, is_bn, is_bb, isn_nn, isn_tn, isn_ln, isn_in, len_l, len_t, int_i, int_b, abs_i, tup_l, tup_t, list_l, list_t, f1_ap, f2_ap, tru_b, tru_t, tru_l, tru_n, item_lstS, item_lstO, item_tupS, wO_map, wO_bind, isi_int_i, isi_int_b, isi_int_n, isi_int_t, isi_int_l, isi_int_s, isi_bool_i, isi_bool_b, isi_bool_n, isi_tl_t, isi_tl_l, isi_tl_i, isi_tl_n, isi_t_t, isi_t_l, isi_l_t, isi_l_l, slice_l, slice_t, shO_sh, blO_bl, blD_bl, intO_i, seq_l, seq_t, seq_f, ownL_l, two_ap, isSh_s, made_ok, toD_sh, toD_lst, mod_ii, mul_ii, div_ii, add_ll, add_tt, List.getElem?_cons_zero, List.getElem?_cons_succ, List.set_cons_zero, List.set_cons_succ, Option.join_some, Option.join_none, List.map_cons, List.map_nil, if_true, if_false, Bool.false_eq_true, reduceIte, Bool.true_or, Bool.or_true, Bool.false_or, Bool.true_and, Bool.and_true, Bool.false_and, Bool.and_false, true_and, and_true, Bool.not_true, Bool.not_false, decide_eq_true_eq, len0, len1, len2, len3, len4, len5, len6, abs2, pos2, wM_disp, wM_consP, isDk_dk, isDk_dt, toD_ct, Ct.toD]
      have eg : 2 * (1 + (leaves : Int) + (pre.length : Int)) = ((2 * (1 + leaves + pre.length) : Nat) : Int) := by omega
      rw [eg]
      rw [List.filterMap_nil, List.append_nil]
      exact ⟨rfl, _, _, rfl⟩
    · rintro rp r rq _ er ⟨f, h, rfl⟩
      have hr : r ∈ rowsG (2 * (1 + leaves + pre.length)) g := by rw [er]; simp
      obtain ⟨r1, r2⟩ := rowsG_ok hk.1 hk.2 hr
      simp only [wO_some, wO_none, wO_ite, wM_ok, wM_bad, wM_pure, wM_bind, wM_map, wM_iteB, wM_iteM, wM_nameB, wM_nameS, wM_nameV, wM_nameM, wM_asSh, wM_cons, wM_consO, wM_consT, wM_consB, wM_tup, wM_lst, wM_opS, wM_opN, wM_bl, wM_andT, wM_orT, wM_if, wM_andV, wM_orV, wM_tru, wM_neg, wM_part, wM_slice, wM_call, wM_isi, wM_op1, wM_bO, wM_chain, wM_sub, wM_subN, wM_has, wM_callF, wM_make, wM_newK, wM_newT, wM_get1, wM_get2, wM_field, wM_seq, wM_rngA1, wM_rngA2, wM_enumL, wM_enumT, wM_zipL, wM_zipT, wS_seq, wS_next, wS_brk, wS_cont, wS_bad, wS_if, wS_ret, wS_retN, wS_expr, wS_asg, wS_tg, wS_par, wS_app, wS_put, wS_fldX, wO_bName0, wO_bNameS, wO_bTup, wO_bNil, wO_bCons, wO_fillN, wO_fillS, wO_fillP, putBack_some, putBack_none, putBack_nil, slotSh_s, slotSh_sh, slotSh_ct, slotSh_rc, wipe_nil, wipe_cons, back_nil, back_cons, rest_s, rest_n, rest_sh, rest_ct, rest_rc, add_ii, sub_ii, cmp_ii, eq_ii, ne_ii, is_nn, is_tn, is_ln, is_in, is_bn, is_bb, isn_nn, isn_tn, isn_ln, isn_in, len_l, len_t, int_i, int_b, abs_i, tup_l, tup_t, list_l, list_t, f1_ap, f2_ap, tru_b, tru_t, tru_l, tru_n, item_lstS, item_lstO, item_tupS, wO_map, wO_bind, isi_int_i, isi_int_b, isi_int_n, isi_int_t, isi_int_l, isi_int_s, isi_bool_i, isi_bool_b, isi_bool_n, isi_tl_t, isi_tl_l, isi_tl_i, isi_tl_n, isi_t_t, isi_t_l, isi_l_t, isi_l_l, slice_l, slice_t, shO_sh, blO_bl, blD_bl, intO_i, seq_l, seq_t, seq_f, ownL_l, two_ap, isSh_s, made_ok, toD_sh, toD_lst, mod_ii, mul_ii, div_ii, add_ll, add_tt, List.getElem?_cons_zero, List.getElem?_cons_succ, List.set_cons_zero, List.set_cons_succ, Option.join_some, Option.join_none, List.map_cons, List.map_nil, if_true, if_false, Bool.false_eq_true, reduceIte, Bool.true_or, Bool.or_true, Bool.false_or, Bool.true_and, Bool.and_true, Bool.false_and, Bool.and_false, true_and, and_true, Bool.not_true, Bool.not_false, decide_eq_true_eq, len0, len1, len2, len3, len4, len5, len6, abs2, pos2, wM_disp, wM_consP, isDk_dk, isDk_dt, toD_ct, Ct.toD]
      refine own_clause_w (o := .sh (.tup (r.map natD))) rfl (.inl rfl) (by omega) (fun l hl => by have := r2 l hl; omega) fun o' ho' => ?_
      have hrp : (rp.filterMap clL).length ≤ 3 := by
        have h1 := List.length_filterMap_le clL rp
        have h2 := congrArg List.length er
        simp only [rowsG, List.length_append, List.length_cons, List.length_nil] at h2
        omega
      cases hc : clL r with
      | none =>
        simp only [clO, wO_some, wO_none, wO_ite, wM_ok, wM_bad, wM_pure, wM_bind, wM_map, wM_iteB, wM_iteM, wM_nameB, wM_nameS, wM_nameV, wM_nameM, wM_asSh, wM_cons, wM_consO, wM_consT, wM_consB, wM_tup, wM_lst, wM_opS, wM_opN, wM_bl, wM_andT, wM_orT, wM_if, wM_andV, wM_orV, wM_tru, wM_neg, wM_part, wM_slice, wM_call, wM_isi, wM_op1, wM_bO, wM_chain, wM_sub, wM_subN, wM_has, wM_callF, wM_make, wM_newK, wM_newT, wM_get1, wM_get2, wM_field, wM_seq, wM_rngA1, wM_rngA2, wM_enumL, wM_enumT, wM_zipL, wM_zipT, wS_seq, wS_next, wS_brk, wS_cont, wS_bad, wS_if, wS_ret, wS_retN, wS_expr, wS_asg, wS_tg, wS_par, wS_app, wS_put, wS_fldX, wO_bName0, wO_bNameS, wO_bTup, wO_bNil, wO_bCons, wO_fillN, wO_fillS, wO_fillP, putBack_some, putBack_none, putBack_nil, slotSh_s, slotSh_sh, slotSh_ct, slotSh_rc, wipe_nil, wipe_cons, back_nil, back_cons, rest_s, rest_n, rest_sh, rest_ct, rest_rc, add_ii, sub_ii, cmp_ii, eq_ii, ne_ii, is_nn, is_tn, is_ln, is_in, is_bn, is_bb, isn_nn, isn_tn, isn_ln, isn_in, len_l, len_t, int_i, int_b, abs_i, tup_l, tup_t, list_l, list_t, f1_ap, f2_ap, tru_b, tru_t, tru_l, tru_n, item_lstS, item_lstO, item_tupS, wO_map, wO_bind, isi_int_i, isi_int_b, isi_int_n, isi_int_t, isi_int_l, isi_int_s, isi_bool_i, isi_bool_b, isi_bool_n, isi_tl_t, isi_tl_l, isi_tl_i, isi_tl_n, isi_t_t, isi_t_l, isi_l_t, isi_l_l, slice_l, slice_t, shO_sh, blO_bl, blD_bl, intO_i, seq_l, seq_t, seq_f, ownL_l, two_ap, isSh_s, made_ok, toD_sh, toD_lst, mod_ii, mul_ii, div_ii, add_ll, add_tt, List.getElem?_cons_zero, List.getElem?_cons_succ, List.set_cons_zero, List.set_cons_succ, Option.join_some, Option.join_none, List.map_cons, List.map_nil, if_true, if_false, Bool.false_eq_true, reduceIte, Bool.true_or, Bool.or_true, Bool.false_or, Bool.true_and, Bool.and_true, Bool.false_and, Bool.and_false, true_and, and_true, Bool.not_true, Bool.not_false, decide_eq_true_eq, len0, len1, len2, len3, len4, len5, len6, abs2, pos2, wM_disp, wM_consP, isDk_dk, isDk_dt, toD_ct, Ct.toD]
        have e1 : (rp ++ [r]).filterMap clL = rp.filterMap clL := by simp [hc]
        rw [e1]
        exact ⟨_, _, rfl⟩
      | some c =>
        simp only [clO, wO_some, wO_none, wO_ite, wM_ok, wM_bad, wM_pure, wM_bind, wM_map, wM_iteB, wM_iteM, wM_nameB, wM_nameS, wM_nameV, wM_nameM, wM_asSh, wM_cons, wM_consO, wM_consT, wM_consB, wM_tup, wM_lst, wM_opS, wM_opN, wM_bl, wM_andT, wM_orT, wM_if, wM_andV, wM_orV, wM_tru, wM_neg, wM_part, wM_slice, wM_call, wM_isi, wM_op1, wM_bO, wM_chain, wM_sub, wM_subN, wM_has, wM_callF, wM_make, wM_newK, wM_newT, wM_get1, wM_get2, wM_field, wM_seq, wM_rngA1, wM_rngA2, wM_enumL, wM_enumT, wM_zipL, wM_zipT, wS_seq, wS_next, wS_brk, wS_cont, wS_bad, wS_if, wS_ret, wS_retN, wS_expr, wS_asg, wS_tg, wS_par, wS_app, wS_put, wS_fldX, wO_bName0, wO_bNameS, wO_bTup, wO_bNil, wO_bCons, wO_fillN, wO_fillS, wO_fillP, putBack_some, putBack_none, putBack_nil, slotSh_s, slotSh_sh, slotSh_ct, slotSh_rc, wipe_nil, wipe_cons, back_nil, back_cons, rest_s, rest_n, rest_sh, rest_ct, rest_rc, add_ii, sub_ii, cmp_ii, eq_ii, ne_ii, is_nn, is_tn, is_ln, is_in, is_bn, is_bb, isn_nn, isn_tn, isn_ln, isn_in, len_l, len_t, int_i, int_b, abs_i, tup_l, tup_t, list_l, list_t, f1_ap, f2_ap, tru_b, tru_t, tru_l, tru_n, item_lstS, item_lstO, item_tupS, wO_map, wO_bind, isi_int_i, isi_int_b, isi_int_n, isi_int_t, isi_int_l, isi_int_s, isi_bool_i, isi_bool_b, isi_bool_n, isi_tl_t, isi_tl_l, isi_tl_i, isi_tl_n, isi_t_t, isi_t_l, isi_l_t, isi_l_l, slice_l, slice_t, shO_sh, blO_bl, blD_bl, intO_i, seq_l, seq_t, seq_f, ownL_l, two_ap, isSh_s, made_ok, toD_sh, toD_lst, mod_ii, mul_ii, div_ii, add_ll, add_tt, List.getElem?_cons_zero, List.getElem?_cons_succ, List.set_cons_zero, List.set_cons_succ, Option.join_some, Option.join_none, List.map_cons, List.map_nil, if_true, if_false, Bool.false_eq_true, reduceIte, Bool.true_or, Bool.or_true, Bool.false_or, Bool.true_and, Bool.and_true, Bool.false_and, Bool.and_false, true_and, and_true, Bool.not_true, Bool.not_false, decide_eq_true_eq, len0, len1, len2, len3, len4, len5, len6, abs2, pos2, wM_disp, wM_consP, isDk_dk, isDk_dt, toD_ct, Ct.toD, List.length_map, List.length_append]
        have e1 : (clsL leaves pre ++ (rp ++ [r]).filterMap clL).map cD = (clsL leaves pre ++ rp.filterMap clL).map cD ++ [.tup (c.map D.int)] := by simp [hc, cD]
        rw [e1]
        exact ⟨by show _ < 16777216; omega, _, _, rfl⟩
    · rintro _ ⟨f, h, rfl⟩
      rw [clsL_snoc]
      exact ⟨_, _, _, _, _, _, rfl⟩
  · rintro _ ⟨b, c, d, e, f, h, rfl⟩
    simp only [wO_some, wO_none, wO_ite, wM_ok, wM_bad, wM_pure, wM_bind, wM_map, wM_iteB, wM_iteM, wM_nameB, wM_nameS, wM_nameV, wM_nameM, wM_asSh, wM_cons, wM_consO, wM_consT, wM_consB, wM_tup, wM_lst, wM_opS, wM_opN, wM_bl, wM_andT, wM_orT, wM_if, wM_andV, wM_orV, wM_tru, wM_neg, wM_part, wM_slice, wM_call, wM_isi, wM_op1, wM_bO, wM_chain, wM_sub, wM_subN, wM_has, wM_callF, wM_make, wM_newK, wM_newT, wM_get1, wM_get2, wM_field, wM_seq, wM_rngA1, wM_rngA2, wM_enumL, wM_enumT, wM_zipL, wM_zipT, wS_seq, wS_next, wS_brk, wS_cont, wS_bad, wS_if, wS_ret, wS_retN, wS_expr, wS_asg, wS_tg, wS_par, wS_app, wS_put, wS_fldX, wO_bName0, wO_bNameS, wO_bTup, wO_bNil, wO_bCons, wO_fillN, wO_fillS, wO_fillP, putBack_some, putBack_none, putBack_nil, slotSh_s, slotSh_sh, slotSh_ct, slotSh_rc, wipe_nil, wipe_cons, back_nil, back_cons, rest_s, rest_n, rest_sh, rest_ct, rest_rc, add_ii, sub_ii, cmp_ii, eq_ii, ne_ii, is_nn, is_tn, is_ln, is_in, is_bn, is_bb, isn_nn, isn_tn, isn_ln, isn_in, len_l, len_t, int_i, int_b, abs_i, tup_l, tup_t, list_l, list_t, f1_ap, f2_ap, tru_b, tru_t, tru_l, tru_n, item_lstS, item_lstO, item_tupS, wO_map, wO_bind, isi_int_i, isi_int_b, isi_int_n, isi_int_t, isi_int_l, isi_int_s, isi_bool_i, isi_bool_b, isi_bool_n, isi_tl_t, isi_tl_l, isi_tl_i, isi_tl_n, isi_t_t, isi_t_l, isi_l_t, isi_l_l, slice_l, slice_t, shO_sh, blO_bl, blD_bl, intO_i, seq_l, seq_t, seq_f, ownL_l, two_ap, isSh_s, made_ok, toD_sh, toD_lst, mod_ii, mul_ii, div_ii, add_ll, add_tt, List.getElem?_cons_zero, List.getElem?_cons_succ, List.set_cons_zero, List.set_cons_succ, Option.join_some, Option.join_none, List.map_cons, List.map_nil, if_true, if_false, Bool.false_eq_true, reduceIte, Bool.true_or, Bool.or_true, Bool.false_or, Bool.true_and, Bool.and_true, Bool.false_and, Bool.and_false, true_and, and_true, Bool.not_true, Bool.not_false, decide_eq_true_eq, len0, len1, len2, len3, len4, len5, len6, abs2, pos2, wM_disp, wM_consP, isDk_dk, isDk_dt, toD_ct, Ct.toD]
    exact q
end
end DL

end

section
set_option Elab.async false
set_option linter.all false
set_option maxRecDepth 100000
/-! EG, part D: when an assignment keeps all clauses of a graph. -/
namespace DL
open PySem L2 RZ PyProof.Rows
/-! ### what repr shows of numbers -/
theorem RB.int {i : Int} (h : i.natAbs < 1000000000) : RB 0 11 (.int i) := by
  by_cases h0 : 0 ≤ i
  · exact (RB.nat h0 (by omega)).mono (Nat.le_refl _) (by decide)
  · refine ⟨.int i, by simp only [toPy], ?_, ?_, Nat.le_refl _⟩
    · simp only [PyData.showable]
      exact decide_eq_true (log2_1920 (by omega))
    · simp only [PyData.shown]
      have e := toString_neg (n := i) (by omega)
      have e2 := toString_length_le (v := 0 - i) (k := 10) (by omega) (by decide) (by omega)
      rw [e]
      rw [PyProof.Rows.ofString_length] at e2 ⊢
      rw [String.toList_append, List.length_append]
      have : ("-" : String).toList.length = 1 := rfl
      omega
/-! ### cuts -/
theorem cut_from {α : Type} {xs : List α} {k : Nat} (h : k ≤ xs.length) : cutL xs (some (k : Int)) none = xs.drop k := by
  unfold cutL
  rw [HT.sIx_nat, HT.sIx_none, Nat.min_eq_left h]
  exact List.take_of_length_le (by rw [List.length_drop]; omega)
theorem cut_upto {α : Type} {xs : List α} {k : Nat} (h : k ≤ xs.length) : cutL xs none (some (k : Int)) = xs.take k := by
  unfold cutL
  rw [HT.sIx_nat, HT.sIx_none, Nat.min_eq_left h]
  rfl
/-! ### rows of truths -/
theorem fls_bls : ∀ (bs : List Bool), flsD (bs.map D.bl) = some (bs.map V.bl)
  | [] => rfl
  | b :: bs => by simp only [List.map_cons, flsD, flD, fls_bls bs]
theorem inV_bls : ∀ {bs : List Bool}, inV (.bl false) (bs.map V.bl) = !bs.all id
  | [] => rfl
  | b :: bs => by
    have e : inV (.bl false) (V.bl b :: bs.map V.bl) = (!b || inV (.bl false) (bs.map V.bl)) := by
      simp only [inV, List.any_cons]
      congr 1
      cases b <;> rfl
    rw [List.map_cons, e, inV_bls (bs := bs)]
    cases b <;> simp
theorem notin_bls {bs : List Bool} : inO true (.bl false) (.lst (bs.map D.bl)) = some (.sh (.bl (bs.all id))) := by
  simp only [inO, inB, flD, fls_bls, inV_bls]
  simp
/-! ### bits of literals -/
theorem bitL_flp {vs : List Nat} {l : Nat} (h : ∀ v ∈ vs, v < 2) : bitL vs (flp l) = 1 - bitL vs l := by
  have hv : vs.getD (l / 2) 0 < 2 := by
    rw [List.getD_eq_getElem?_getD]
    rcases q : vs[l / 2]? with _ | v
    · simp
    · exact h v (List.mem_of_getElem? q)
  have e : flp l / 2 = l / 2 := by unfold flp; split <;> omega
  unfold bitL
  rw [e]
  by_cases h2 : l % 2 = 0
  · have h3 : ¬ flp l % 2 = 0 := by unfold flp; rw [if_pos h2]; omega
    rw [if_pos h2, if_neg h3]
  · have h3 : flp l % 2 = 0 := by unfold flp; rw [if_neg h2]; omega
    rw [if_neg h2, if_pos h3]
    omega
theorem any_perm {α : Type} {p : α → Bool} {xs ys : List α} (h : xs.Perm ys) : xs.any p = ys.any p := by
  rw [Bool.eq_iff_iff, List.any_eq_true, List.any_eq_true]
  exact ⟨fun ⟨x, a, b⟩ => ⟨x, h.mem_iff.mp a, b⟩, fun ⟨x, a, b⟩ => ⟨x, h.mem_iff.mpr a, b⟩⟩
theorem sgn_lit {ls : List Nat} {l : Nat} (hcb : conB ls = false) (hlm : l ∈ ls) : sgnL ls ((l : Int) / 2) = litI l := by
  unfold litI sgnL
  by_cases h3 : (l : Int) % 2 = 0
  · rw [if_pos h3, if_pos ⟨l, hlm, by omega⟩]
  · rw [if_neg h3, if_neg]
    rintro ⟨m, hmm, e6⟩
    have := (con_out hcb hlm hmm).2
    unfold flp at this
    split at this <;> omega
theorem oneB_lit {bs : List Nat} {l : Nat} (hb : ∀ v ∈ bs, v < 2) (hl : 1 < l) : oneB bs (litI l) = (bitL (0 :: bs) l == 1) := by
  have hv : bs.getD (l / 2 - 1) 0 < 2 := by
    rw [List.getD_eq_getElem?_getD]
    rcases q : bs[l / 2 - 1]? with _ | v
    · simp
    · exact hb v (List.mem_of_getElem? q)
  have e1 : (0 :: bs).getD (l / 2) 0 = bs.getD (l / 2 - 1) 0 := by
    have : l / 2 = (l / 2 - 1) + 1 := by omega
    rw [this]
    rfl
  have e2 : (litI l).natAbs = l / 2 := by unfold litI; split <;> omega
  unfold oneB bitL
  rw [e1, e2]
  by_cases h : l % 2 = 0
  · have h2 : 0 < litI l := by unfold litI; rw [if_pos (by omega)]; omega
    rw [if_pos h, if_pos h2]
  · have h2 : ¬ 0 < litI l := by unfold litI; rw [if_neg (by omega)]; omega
    rw [if_neg h, if_neg h2, Bool.eq_iff_iff, beq_iff_eq, beq_iff_eq]
    omega
def clSat (bs : List Nat) : Option (List Int) → Bool
  | none => true
  | some cs => satB bs cs
theorem clause_sat {bs ls : List Nat} (hb : ∀ v ∈ bs, v < 2) : clSat bs (clL ls) = ls.any fun l => bitL (0 :: bs) l == 1 := by
  have hb0 : ∀ v ∈ 0 :: bs, v < 2 := fun v hv => by
    rcases List.mem_cons.mp hv with rfl | hv
    · omega
    · exact hb v hv
  unfold clL
  cases hc : conB ls with
  | true =>
    show true = _
    symm
    rw [List.any_eq_true]
    unfold conB at hc
    rcases Bool.or_eq_true_iff.mp hc with h | h
    · obtain ⟨l, hl, e⟩ := of_decide_eq_true h
      have : l = 1 := by omega
      subst this
      exact ⟨1, hl, rfl⟩
    · obtain ⟨l, hl, h⟩ := List.any_eq_true.mp h
      obtain ⟨m, hm, e⟩ := of_decide_eq_true h
      have : m = flp l := by omega
      subst this
      have h1 := bitL_flp (l := l) hb0
      have h2 := bitL_le hb0 l
      rcases (by omega : bitL (0 :: bs) l = 0 ∨ bitL (0 :: bs) l = 1) with z | z
      · exact ⟨_, hm, by rw [h1, z]; rfl⟩
      · exact ⟨_, hl, by rw [z]; rfl⟩
  | false =>
    show ((sortI (ndL ls)).map (sgnL ls)).any (oneB bs) = _
    rw [List.any_map, any_perm (sortI_perm _), Bool.eq_iff_iff, List.any_eq_true, List.any_eq_true]
    constructor
    · rintro ⟨n, hn, h⟩
      obtain ⟨l, ⟨hl, h1⟩, rfl⟩ := ndL_mem.mp hn
      simp only [Function.comp, sgn_lit hc hl, oneB_lit hb h1] at h
      exact ⟨l, hl, h⟩
    · rintro ⟨l, hl, h⟩
      have h1 : 1 < l := by
        have := (con_out hc hl hl).1
        rcases (by omega : l = 0 ∨ 1 < l) with z | z
        · subst z; cases h
        · exact z
      exact ⟨_, ndL_mem.mpr ⟨l, ⟨hl, h1⟩, rfl⟩, by simp only [Function.comp, sgn_lit hc hl, oneB_lit hb h1]; exact h⟩
/-- all clauses are kept -/
def allS (leaves : Nat) (gs : List (Nat × Nat)) (bs : List Nat) : Bool := (clsL leaves gs).all (satB bs)
theorem all_fm {bs : List Nat} {rs : List (List Nat)} : (rs.filterMap clL).all (satB bs) = rs.all fun r => clSat bs (clL r) := by
  induction rs with
  | nil => rfl
  | cons r rs ih =>
    rw [List.filterMap_cons, List.all_cons]
    cases h : clL r with
    | none => simpa [clSat] using ih
    | some c => simp only [List.all_cons, ih, clSat]
/-- what a gate asks -/
theorem gate_sat {vs : List Nat} {a b n : Nat} (h : ∀ v ∈ vs, v < 2) : ((rowsG (2 * n) (a, b)).all fun r => r.any fun l => bitL vs l == 1) = (vs.getD n 0 == bitL vs a * bitL vs b) := by
  have e0 : bitL vs (2 * n) = vs.getD n 0 := by
    unfold bitL
    rw [if_pos (by omega), show 2 * n / 2 = n by omega]
  have e1 : bitL vs (2 * n + 1) = 1 - vs.getD n 0 := by
    unfold bitL
    rw [if_neg (by omega), show (2 * n + 1) / 2 = n by omega]
  have h0 := bitL_le h (2 * n)
  have ha := bitL_le h a
  have hb := bitL_le h b
  rw [e0] at h0
  unfold rowsG
  simp only [List.all_cons, List.all_nil, List.any_cons, List.any_nil, Bool.or_false, Bool.and_true, bitL_flp h, e0, e1]
  rcases (by omega : vs.getD n 0 = 0 ∨ vs.getD n 0 = 1) with z | z <;> rcases (by omega : bitL vs a = 0 ∨ bitL vs a = 1) with z2 | z2 <;> rcases (by omega : bitL vs b = 0 ∨ bitL vs b = 1) with z3 | z3 <;> rw [z, z2, z3] <;> rfl
theorem bitL_take {vs : List Nat} {m l : Nat} (h : l / 2 < m) : bitL (vs.take m) l = bitL vs l := by
  unfold bitL
  rw [List.getD_eq_getElem?_getD, List.getD_eq_getElem?_getD, List.getElem?_take_of_lt h]
theorem allS_iff {leaves : Nat} {bs : List Nat} (hb : ∀ v ∈ bs, v < 2) : ∀ {gs : List (Nat × Nat)}, GOk leaves gs → leaves + gs.length ≤ bs.length →
    (allS leaves gs bs = true ↔ valsL gs (bs.take leaves) = (0 :: bs).take (1 + leaves + gs.length)) := by
  intro gs
  have hb0 : ∀ v ∈ 0 :: bs, v < 2 := fun v hv => by
    rcases List.mem_cons.mp hv with rfl | hv
    · omega
    · exact hb v hv
  induction gs using snoc_ind with
  | h0 =>
    intro hg hl
    have e : allS leaves [] bs = true := rfl
    have e2 : valsL [] (bs.take leaves) = (0 :: bs).take (1 + leaves) := by rw [Nat.add_comm 1 leaves]; rfl
    simp only [e, e2, List.length_nil, Nat.add_zero]
  | h1 gs g ih =>
    intro hg hl
    rw [List.length_append] at hl
    simp only [List.length_cons, List.length_nil] at hl
    have ih := ih hg.pre (by omega)
    have hk := hg gs g [] rfl
    have e1 : allS leaves (gs ++ [g]) bs = (allS leaves gs bs && ((0 :: bs).getD (1 + leaves + gs.length) 0 == bitL (0 :: bs) g.1 * bitL (0 :: bs) g.2)) := by
      unfold allS
      rw [clsL_snoc, List.all_append, all_fm]
      congr 1
      rw [← gate_sat hb0]
      congr 1
      funext r
      exact clause_sat hb
    have e2 : valsL (gs ++ [g]) (bs.take leaves) = valsL gs (bs.take leaves) ++ [bitL (valsL gs (bs.take leaves)) g.1 * bitL (valsL gs (bs.take leaves)) g.2] := valsG_snoc
    have hlen : (valsL gs (bs.take leaves)).length = 1 + leaves + gs.length := by rw [valsL_len, List.length_take, Nat.min_eq_left (by omega)]
    have hlt : 1 + leaves + gs.length < (0 :: bs).length := by rw [List.length_cons]; omega
    have e3 : (0 :: bs).take (1 + leaves + (gs ++ [g]).length) = (0 :: bs).take (1 + leaves + gs.length) ++ [(0 :: bs).getD (1 + leaves + gs.length) 0] := by
      rw [List.length_append, List.length_cons, List.length_nil, ← Nat.add_assoc, Nat.zero_add, List.take_add_one, List.getElem?_eq_getElem hlt, List.getD_eq_getElem?_getD, List.getElem?_eq_getElem hlt]
      rfl
    rw [e1, Bool.and_eq_true, ih, e2, e3, beq_iff_eq]
    constructor
    · rintro ⟨h1, h2⟩
      rw [h1, bitL_take (by omega), bitL_take (by omega), h2]
    · intro h
      obtain ⟨h1, h2⟩ := List.append_inj h (by rw [hlen, List.length_take, Nat.min_eq_left (by omega)])
      refine ⟨h1, ?_⟩
      have h2 := (List.cons.inj h2).1
      rw [h1, bitL_take (by omega), bitL_take (by omega)] at h2
      exact h2.symm
/-- the one row that the leaves leave -/
def oneR (gs : List (Nat × Nat)) (b : List Nat) : List Nat := (valsL gs b).drop 1
theorem valsL_hd {gs : List (Nat × Nat)} {b : List Nat} : valsL gs b = 0 :: oneR gs b := by
  have h : ∀ {gs : List (Nat × Nat)} {vs : List Nat} {v : Nat}, ∃ ws, valsG (v :: vs) gs = v :: (vs ++ ws) := by
    intro gs
    induction gs with
    | nil => intro vs v; exact ⟨[], by simp [valsG]⟩
    | cons g gs ih =>
      intro vs v
      obtain ⟨ws, e⟩ := ih (vs := vs ++ [bitL (v :: vs) g.1 * bitL (v :: vs) g.2]) (v := v)
      refine ⟨[bitL (v :: vs) g.1 * bitL (v :: vs) g.2] ++ ws, ?_⟩
      show valsG ((v :: vs) ++ [_]) gs = _
      rw [List.cons_append, e, List.append_assoc]
  obtain ⟨ws, e⟩ := h (gs := gs) (vs := b) (v := 0)
  unfold oneR valsL
  rw [e]
  rfl
theorem oneR_take {gs : List (Nat × Nat)} {b : List Nat} : (oneR gs b).take b.length = b := by
  have h : ∀ {gs : List (Nat × Nat)} {vs : List Nat}, ∃ ws, valsG vs gs = vs ++ ws := by
    intro gs
    induction gs with
    | nil => intro vs; exact ⟨[], by simp [valsG]⟩
    | cons g gs ih =>
      intro vs
      obtain ⟨ws, e⟩ := ih (vs := vs ++ [bitL vs g.1 * bitL vs g.2])
      exact ⟨_, by show valsG (vs ++ [_]) gs = _; rw [e, List.append_assoc]⟩
  obtain ⟨ws, e⟩ := h (gs := gs) (vs := 0 :: b)
  unfold oneR valsL
  rw [e]
  simp
theorem oneR_len {gs : List (Nat × Nat)} {b : List Nat} : (oneR gs b).length = b.length + gs.length := by
  unfold oneR
  rw [List.length_drop, valsL_len]
  omega
theorem oneR_bit {gs : List (Nat × Nat)} {b : List Nat} (h : ∀ v ∈ b, v < 2) : ∀ v ∈ oneR gs b, v < 2 := fun v hv => valsL_bit h v (List.mem_of_mem_drop hv)
/-- an assignment of all nodes keeps all clauses just when the gates are told by the leaves -/
theorem allS_one {leaves : Nat} {gs : List (Nat × Nat)} {bs : List Nat} (hg : GOk leaves gs) (hb : ∀ v ∈ bs, v < 2) (hl : bs.length = leaves + gs.length) : allS leaves gs bs = true ↔ bs = oneR gs (bs.take leaves) := by
  have e : (0 :: bs).take (1 + leaves + gs.length) = 0 :: bs := List.take_of_length_le (by rw [List.length_cons]; omega)
  rw [allS_iff hb hg (by omega), valsL_hd, e, List.cons.injEq]
  exact ⟨fun h => h.2.symm, fun h => ⟨rfl, h.symm⟩⟩
end DL

end

section
set_option Elab.async false
set_option linter.all false
set_option maxRecDepth 100000
namespace K20
open PySem L2 RZ DL PyProof.Rows
abbrev top (i : Nat) : Stmt := PySem.Challenge.pw_everycycle_k20_whole_one_assignment.main.body.getD i (.Pass ⟨0, 0, 0, 0⟩)
/-- what the module does not rebind -/
structure Txt (mg : Str → Option Value) : Prop where
  m : ∀ x ∈ (["abs", "all", "any", "bool", "dict", "enumerate", "int", "isinstance", "len", "list", "range", "repr", "sorted", "tuple"] : List Str), mg x = none

/-! ### _law_pen(_law_script): slots 0 _law_script, 1 _law_fold, 2 _law_cell -/
abbrev s__law_pen : Stmt := top 15
-- d__law_pen, sem__law_pen: the shared ones
theorem sc__law_pen : FnScope ["_law_script", "_law_fold", "_law_cell"] ["_law_script"] (defScope s__law_pen) := ⟨rfl, rfl, rfl, by decide +kernel, rfl, by decide +kernel, by decide +kernel⟩
theorem ok__law_pen {P : Program} {w : World} {K : PySem.W.Frag} {mg : Str → Option Value} {base : Heap} (T : Txt mg) (TF : FieldsOk ⟨K, mg⟩ tbl) {f : Addr} {fd : FuncData} (F : Fun K "_law_pen" "_law_pen" s__law_pen f fd) (hm : mg "_law_pen" = some (.ref f)) : CalG P w K mg base 1 "_law_pen" ["_law_script"] sem__law_pen :=
  ⟨f, fd, fn_G (k := 0) (N := ["_law_script", "_law_fold", "_law_cell"]) F sc__law_pen (by decide) (fun cdv A outer s H E hr => have sc := sc__law_pen
    (dS_cons (dS_set (i := 1) (fun _ h => ps_set sc.nd rfl (by first | exact Or.inl rfl | exact Or.inr rfl) h) (dE_V dV_int) (by decide))
    (dS_cons (dS_for (fun g tb hg hb => ps_for PassesOwn.never rfl (dI_seq (fun h => pi_list h) (fun h => pi_tup h) (dV_nameV (pv 0))) hg hb) (fun _ _ _ z => z) (dG_name (pg_name sc.nd rfl (by first | exact Or.inl rfl | exact Or.inr rfl)))
    (dS_one (dS_set (i := 1) (fun _ h => ps_set sc.nd rfl (by first | exact Or.inl rfl | exact Or.inr rfl) h) (de_opS op_mod mod_sem (dE_callT call_int1 (Call1.op int_sem) rfl (T.m "int" (by decide)) PyProof.Rows.boot_int (dBs_cons (dB_E (de_opS op_addA add_sem (de_opN op_mulW mul_semI (pv 1) (dB_V dV_int)) (dB_name (pv 2)))) dBs_nil) (by decide) (by decide)) (dB_V dV_int)) (by decide))) (by decide))
    (dS_one (dS_ret (dE_disp (dP_cons dV_str (dV_E (dE_callT call_list_of (Call1.op list_sem) rfl (T.m "list" (by decide)) PyProof.Rows.boot_list (dBs_cons (dB_name (pv 0)) dBs_nil) (by decide) (by decide))) (dP_cons dV_str dV_int (dP_cons dV_str dV_int (dP_cons dV_str dV_int (dP_cons dV_str (dV_nameV (pv 1)) (dP_nil)))))))))))), hm, F.kp, F.binds fun _ _ _ _ _ _ us hl => match us, hl with | [_], _ => rfl⟩

/-! ### _law_draw(_law_pen_here, _law_many): slots 0 _law_pen_here, 1 _law_many, 2 _law_cell, 3 _law_digit, 4 _law_blend -/
abbrev s__law_draw : Stmt := top 16
-- d__law_draw, sem__law_draw: the shared ones
theorem sc__law_draw : FnScope ["_law_pen_here", "_law_many", "_law_cell", "_law_digit", "_law_blend"] ["_law_pen_here", "_law_many"] (defScope s__law_draw) := ⟨rfl, rfl, rfl, by decide +kernel, rfl, by decide +kernel, by decide +kernel⟩
theorem ok__law_draw {P : Program} {w : World} {K : PySem.W.Frag} {mg : Str → Option Value} {base : Heap} (T : Txt mg) (TF : FieldsOk ⟨K, mg⟩ tbl) {f : Addr} {fd : FuncData} (F : Fun K "_law_draw" "_law_draw" s__law_draw f fd) (hm : mg "_law_draw" = some (.ref f)) : CalG P w K mg base 1 "_law_draw" ["_law_pen_here", "_law_many"] sem__law_draw :=
  ⟨f, fd, fn_G (k := 0) (N := ["_law_pen_here", "_law_many", "_law_cell", "_law_digit", "_law_blend"]) F sc__law_draw (by decide) (fun cdv A outer s H E hr => have sc := sc__law_draw
    (dS_cons (dS_put (fun _ _ _ h1 h2 h3 => ps_dput (huG hr) h1 h2 h3 rfl) (pv 0) dV_str (dV_E (de_opS op_addA add_sem (dE_V (dV_B (dB_subN (huG hr) (pv 0) dV_str (by intro _ _; rfl) (by intro _ _; rfl)))) (dB_V dV_int))))
    (dS_cons (dS_if (PW.pt (dT_and (dT_cmpS (op_eqD (huG64 hr)) eq_sem (dE_V (dV_B (dB_subN (huG hr) (pv 0) dV_str (by intro _ _; rfl) (by intro _ _; rfl)))) (dB_V dV_int) (nomark _)) (dT_and1 (dT_cmpS op_lt lt_sem (dE_V (dV_B (dB_subN (huG hr) (pv 0) dV_str (by intro _ _; rfl) (by intro _ _; rfl)))) (dB_E (dE_callB call_lenA (Call1.op len_sem) rfl (T.m "len" (by decide)) PySem.boot_len (dBs_cons (dB_subN (huG hr) (pv 0) dV_str (by intro _ _; rfl) (by intro _ _; rfl)) dBs_nil) (by decide) (by decide))) (nomark _))))) (dS_cons (dS_set (i := 2) (fun _ h => ps_set sc.nd rfl (by first | exact Or.inl rfl | exact Or.inr rfl) h) (dE_V (dV_B (dB_sub (huG hr) (dB_subN (huG hr) (pv 0) dV_str (by intro _ _; rfl) (by intro _ _; rfl)) (dV_no (dV_B (dB_subN (huG hr) (pv 0) dV_str (by intro _ _; rfl) (by intro _ _; rfl)))) (by intro _ _; rfl) (by intro _ _; rfl)))) (by decide))
    (dS_cons (dS_put (fun _ _ _ h1 h2 h3 => ps_dput (huG hr) h1 h2 h3 rfl) (pv 0) dV_str (dV_E (de_opS op_addA add_sem (dE_V (dV_B (dB_subN (huG hr) (pv 0) dV_str (by intro _ _; rfl) (by intro _ _; rfl)))) (dB_V dV_int))))
    (dS_one (dS_if (dT_cmpN op_ge ge_sem (pv 2) (dB_E (de_opS op_pow pow_sem (dE_V dV_int) (dB_V dV_int))) (nomark _)) (dS_one (dS_put (fun _ _ _ h1 h2 h3 => ps_dput (huG hr) h1 h2 h3 rfl) (pv 0) dV_str (dV_E (de_opN op_sub sub_sem (pv 2) (dB_E (de_opS op_pow pow_sem (dE_V dV_int) (dB_V dV_int))))))) (dS_one (dS_put (fun _ _ _ h1 h2 h3 => ps_dput (huG hr) h1 h2 h3 rfl) (pv 0) dV_str (dV_E (de_opS op_mod mod_sem (dE_callT call_int1 (Call1.op int_sem) rfl (T.m "int" (by decide)) PyProof.Rows.boot_int (dBs_cons (dB_E (de_opS op_addA add_sem (de_opS op_mulW mul_semI (dE_V (dV_B (dB_subN (huG hr) (pv 0) dV_str (by intro _ _; rfl) (by intro _ _; rfl)))) (dB_V dV_int)) (dB_name (pv 2)))) dBs_nil) (by decide) (by decide)) (dB_V dV_int))))))))) dS_nil)
    (dS_cons (dS_if (dT_cmpS op_gt gt_sem (dE_V (dV_B (dB_subN (huG hr) (pv 0) dV_str (by intro _ _; rfl) (by intro _ _; rfl)))) (dB_V dV_int) (nomark _)) (dS_cons (dS_set (i := 3) (fun _ h => ps_set sc.nd rfl (by first | exact Or.inl rfl | exact Or.inr rfl) h) (de_opS op_mod mod_sem (dE_callT call_int1 (Call1.op int_sem) rfl (T.m "int" (by decide)) PyProof.Rows.boot_int (dBs_cons (dB_subN (huG hr) (pv 0) dV_str (by intro _ _; rfl) (by intro _ _; rfl)) dBs_nil) (by decide) (by decide)) (dB_name (pv 1))) (by decide))
    (dS_cons (dS_put (fun _ _ _ h1 h2 h3 => ps_dput (huG hr) h1 h2 h3 rfl) (pv 0) dV_str (dV_E (de_opS op_fdivW div_sem (dE_V (dV_B (dB_subN (huG hr) (pv 0) dV_str (by intro _ _; rfl) (by intro _ _; rfl)))) (dB_name (pv 1)))))
    (dS_one (dS_ret (dE_nameM (pv 3)))))) dS_nil)
    (dS_cons (dS_set (i := 4) (fun _ h => ps_set sc.nd rfl (by first | exact Or.inl rfl | exact Or.inr rfl) h) (de_opS op_addA add_sem (de_opS op_addA add_sem (dE_V (dV_B (dB_subN (huG hr) (pv 0) dV_str (by intro _ _; rfl) (by intro _ _; rfl)))) (dB_E (de_opS op_mulW mul_semI (dE_V (dV_B (dB_subN (huG hr) (pv 0) dV_str (by intro _ _; rfl) (by intro _ _; rfl)))) (dB_V dV_int)))) (dB_V dV_int)) (by decide))
    (dS_one (dS_ret (de_opS op_mod mod_sem (de_opS op_fdivW div_sem (dE_callT call_int1 (Call1.op int_sem) rfl (T.m "int" (by decide)) PyProof.Rows.boot_int (dBs_cons (dB_E (de_opS op_mod mod_sem (de_opN op_pow pow_sem (pv 4) (dB_V dV_int)) (dB_V dV_int))) dBs_nil) (by decide) (by decide)) (dB_V dV_int)) (dB_name (pv 1)))))))))), hm, F.kp, F.binds fun _ _ _ _ _ _ us hl => match us, hl with | [_, _], _ => rfl⟩

/-! ### _law_drawn_gates(_law_pen_here, _law_leaves, _law_many): slots 0 _law_pen_here, 1 _law_leaves, 2 _law_many, 3 _law_gates, 4 _law_k, 5 _law_ahead -/
abbrev s__law_drawn_gates : Stmt := top 18
-- d__law_drawn_gates, sem__law_drawn_gates: the shared ones
theorem sc__law_drawn_gates : FnScope ["_law_pen_here", "_law_leaves", "_law_many", "_law_gates", "_law_k", "_law_ahead"] ["_law_pen_here", "_law_leaves", "_law_many"] (defScope s__law_drawn_gates) := ⟨rfl, rfl, rfl, by decide +kernel, rfl, by decide +kernel, by decide +kernel⟩
theorem ok__law_drawn_gates {P : Program} {w : World} {K : PySem.W.Frag} {mg : Str → Option Value} {base : Heap} (T : Txt mg) (TF : FieldsOk ⟨K, mg⟩ tbl) (c__law_draw : CalG P w K mg base 1 "_law_draw" ["_law_pen_here", "_law_many"] sem__law_draw) {f : Addr} {fd : FuncData} (F : Fun K "_law_drawn_gates" "_law_drawn_gates" s__law_drawn_gates f fd) (hm : mg "_law_drawn_gates" = some (.ref f)) : CalG P w K mg base 2 "_law_drawn_gates" ["_law_pen_here", "_law_leaves", "_law_many"] sem__law_drawn_gates :=
  ⟨f, fd, fn_G (k := 1) (N := ["_law_pen_here", "_law_leaves", "_law_many", "_law_gates", "_law_k", "_law_ahead"]) F sc__law_drawn_gates (by decide) (fun cdv A outer s H E hr => have sc := sc__law_drawn_gates
    (dS_cons (dS_set (i := 3) (fun _ h => ps_set sc.nd rfl (by first | exact Or.inl rfl | exact Or.inr rfl) h) (dE_lst dVs_nil) (by decide))
    (dS_cons (dS_for (fun g tb hg hb => ps_for PassesOwn.never rfl (dI_rngA1 (pi_range1 rfl (T.m "range" (by decide)) (dVs_cons (dV_nameV (pv 2)) dVs_nil))) hg hb) (fun _ _ _ z => z) (dG_name (pg_name sc.nd rfl (by first | exact Or.inl rfl | exact Or.inr rfl)))
    (dS_cons (dS_set (i := 5) (fun _ h => ps_set sc.nd rfl (by first | exact Or.inl rfl | exact Or.inr rfl) h) (de_opS op_mulW mul_semI (dE_V dV_int) (dB_E (de_opS op_addA add_sem (de_opS op_addA add_sem (dE_V dV_int) (dB_name (pv 1))) (dB_name (pv 4))))) (by decide))
    (dS_one (dS_app (i := 3) (fun _ h => ps_expr (pe_bm PySem.F.plainAttrs_list PySem.F.slot_list_append PySem.F.type_list_append mt_append (pv 3) h)) (dV_tup (dVs_cons (dV_E (de_callG c__law_draw hr (by decide) rfl (dA_slot (pv 0) (dA_slot (pv 5) dA_nil)))) (dVs_cons (dV_E (de_callG c__law_draw hr (by decide) rfl (dA_slot (pv 0) (dA_slot (pv 5) dA_nil)))) dVs_nil)))))) (by decide))
    (dS_one (dS_ret (dE_callT call_tuple_of (Call1.op tuple_sem) rfl (T.m "tuple" (by decide)) PyProof.Rows.boot_tuple (dBs_cons (dB_name (pv 3)) dBs_nil) (by decide) (by decide))))))), hm, F.kp, F.binds fun _ _ _ _ _ _ us hl => match us, hl with | [_, _, _], _ => rfl⟩

/-! ### _law_flip(_law_literal): slots 0 _law_literal -/
abbrev s__law_flip : Stmt := top 21
-- d__law_flip, sem__law_flip: the shared ones
theorem sc__law_flip : FnScope ["_law_literal"] ["_law_literal"] (defScope s__law_flip) := ⟨rfl, rfl, rfl, by decide +kernel, rfl, by decide +kernel, by decide +kernel⟩
theorem ok__law_flip {P : Program} {w : World} {K : PySem.W.Frag} {mg : Str → Option Value} {base : Heap} (T : Txt mg) (TF : FieldsOk ⟨K, mg⟩ tbl) {f : Addr} {fd : FuncData} (F : Fun K "_law_flip" "_law_flip" s__law_flip f fd) (hm : mg "_law_flip" = some (.ref f)) : CalG P w K mg base 1 "_law_flip" ["_law_literal"] sem__law_flip :=
  ⟨f, fd, fn_G (k := 0) (N := ["_law_literal"]) F sc__law_flip (by decide) (fun cdv A outer s H E hr => have sc := sc__law_flip
    (dS_one (dS_ret (de_opS op_sub sub_sem (de_opN op_addA add_sem (pv 0) (dB_V dV_int)) (dB_E (de_opS op_mulW mul_semI (dE_V dV_int) (dB_E (de_opS op_mod mod_sem (dE_callT call_int1 (Call1.op int_sem) rfl (T.m "int" (by decide)) PyProof.Rows.boot_int (dBs_cons (dB_name (pv 0)) dBs_nil) (by decide) (by decide)) (dB_V dV_int))))))))), hm, F.kp, F.binds fun _ _ _ _ _ _ us hl => match us, hl with | [_], _ => rfl⟩

/-! ### _law_own_clause(_law_literals_here): slots 0 _law_literals_here, 1 _law_nodes, 2 _law_literal, 3 _law_one, 4 _law_node -/
abbrev s__law_own_clause : Stmt := top 25
-- d__law_own_clause, sem__law_own_clause: the shared ones
theorem sc__law_own_clause : FnScope ["_law_literals_here", "_law_nodes", "_law_literal", "_law_one", "_law_node"] ["_law_literals_here"] (defScope s__law_own_clause) := ⟨rfl, rfl, rfl, by decide +kernel, rfl, by decide +kernel, by decide +kernel⟩
theorem ok__law_own_clause {P : Program} {w : World} {K : PySem.W.Frag} {mg : Str → Option Value} {base : Heap} (T : Txt mg) (TF : FieldsOk ⟨K, mg⟩ tbl) (c__law_flip : CalG P w K mg base 1 "_law_flip" ["_law_literal"] sem__law_flip) {f : Addr} {fd : FuncData} (F : Fun K "_law_own_clause" "_law_own_clause" s__law_own_clause f fd) (hm : mg "_law_own_clause" = some (.ref f)) : CalG P w K mg base 2 "_law_own_clause" ["_law_literals_here"] sem__law_own_clause :=
  ⟨f, fd, fn_G (k := 1) (N := ["_law_literals_here", "_law_nodes", "_law_literal", "_law_one", "_law_node"]) F sc__law_own_clause (by decide) (fun cdv A outer s H E hr => have sc := sc__law_own_clause
    (dS_cons (dS_if (PW.pt (dT_or (dT_cmpS op_inA in_sem (dE_V dV_int) (dB_name (pv 0)) (by with_unfolding_all rfl)) (dT_or1 (dT_cmpS (op_neD (huG64 hr)) ne_sem (dE_lc (W' := W0) (own := [("_law_literal", 2)]) rfl sc.nd (blkOk_by (by rfl)) (dI_seq (fun h => pi_list h) (fun h => pi_tup h) (dV_nameV (pv 0))) (fun s H C cl fp => (dG_name (pg_name sc.nd rfl (by first | exact Or.inl rfl | exact Or.inr rfl)))) (fun s H C cl fp => (dTs_one (dT_cmpS op_inA in_sem (de_callG c__law_flip hr (by decide) rfl (dA_slot (pv 2) dA_nil)) (dB_name (pv 0)) (by with_unfolding_all rfl)))) (fun s H C cl fp => dV_int)) (dB_E (dE_lst dVs_nil)) (nomark _))))) (dS_one (dS_ret (dE_V dV_non))) dS_nil)
    (dS_cons (dS_set (i := 1) (fun _ h => ps_set sc.nd rfl (by first | exact Or.inl rfl | exact Or.inr rfl) h) (dE_callB cr_sortedI (Call1.op sort_sem) rfl (T.m "sorted" (by decide)) PyProof.Rows.boot_sorted (dBs_cons (dB_E (dE_lc (W' := W0) (own := [("_law_literal", 2)]) rfl sc.nd (blkOk_by (by rfl)) (dI_seq (fun h => pi_list h) (fun h => pi_tup h) (dV_E (dE_callT (call_listD rfl) (Call1.op listDO_sem) rfl (T.m "list" (by decide)) PyProof.Rows.boot_list (dBs_cons (dB_E (dE_callT (call_dictP rfl) (Call1.op dictPO_sem) rfl (T.m "dict" (by decide)) PyProof.Rows.boot_dict (dBs_cons (dB_E (dE_lc (W' := W0) (own := [("_law_one", 3)]) rfl sc.nd (blkOk_by (by rfl)) (dI_seq (fun h => pi_list h) (fun h => pi_tup h) (dV_nameV (pv 0))) (fun s H C cl fp => (dG_name (pg_name sc.nd rfl (by first | exact Or.inl rfl | exact Or.inr rfl)))) (fun s H C cl fp => dTs_nil) (fun s H C cl fp => (dV_tup (dVs_cons (dV_nameV (pv 3)) (dVs_cons dV_int dVs_nil)))))) dBs_nil) (by decide) (by decide))) dBs_nil) (by decide) (by decide)))) (fun s H C cl fp => (dG_name (pg_name sc.nd rfl (by first | exact Or.inl rfl | exact Or.inr rfl)))) (fun s H C cl fp => (dTs_one (dT_cmpN op_gt gt_sem (pv 2) (dB_V dV_int) (nomark _)))) (fun s H C cl fp => (dV_E (de_opN op_fdivW div_sem (pv 2) (dB_V dV_int)))))) dBs_nil) (by decide) (by decide)) (by decide))
    (dS_one (dS_ret (dE_callT call_tuple_of (Call1.op tuple_sem) rfl (T.m "tuple" (by decide)) PyProof.Rows.boot_tuple (dBs_cons (dB_E (dE_lc (W' := W0) (own := [("_law_node", 4)]) rfl sc.nd (blkOk_by (by rfl)) (dI_seq (fun h => pi_list h) (fun h => pi_tup h) (dV_nameV (pv 1))) (fun s H C cl fp => (dG_name (pg_name sc.nd rfl (by first | exact Or.inl rfl | exact Or.inr rfl)))) (fun s H C cl fp => dTs_nil) (fun s H C cl fp => (dV_if (dT_cmpS op_inA in_sem (de_opS op_mulW mul_semI (dE_V dV_int) (dB_name (pv 4))) (dB_name (pv 0)) (by with_unfolding_all rfl)) (dV_nameV (pv 4)) (dV_neg (dV_nameV (pv 4))))))) dBs_nil) (by decide) (by decide))))))), hm, F.kp, F.binds fun _ _ _ _ _ _ us hl => match us, hl with | [_], _ => rfl⟩

/-! ### _law_own_clauses(_law_leaves, _law_gates): slots 0 _law_leaves, 1 _law_gates, 2 _law_found, 3 _law_k, 4 _law_one, 5 _law_other, 6 _law_gate, 7 _law_row, 8 _law_clause -/
abbrev s__law_own_clauses : Stmt := top 26
-- d__law_own_clauses, sem__law_own_clauses: the shared ones
theorem sc__law_own_clauses : FnScope ["_law_leaves", "_law_gates", "_law_found", "_law_k", "_law_one", "_law_other", "_law_gate", "_law_row", "_law_clause"] ["_law_leaves", "_law_gates"] (defScope s__law_own_clauses) := ⟨rfl, rfl, rfl, by decide +kernel, rfl, by decide +kernel, by decide +kernel⟩
theorem ok__law_own_clauses {P : Program} {w : World} {K : PySem.W.Frag} {mg : Str → Option Value} {base : Heap} (T : Txt mg) (TF : FieldsOk ⟨K, mg⟩ tbl) (c__law_flip : CalG P w K mg base 1 "_law_flip" ["_law_literal"] sem__law_flip) (c__law_own_clause : CalG P w K mg base 2 "_law_own_clause" ["_law_literals_here"] sem__law_own_clause) {f : Addr} {fd : FuncData} (F : Fun K "_law_own_clauses" "_law_own_clauses" s__law_own_clauses f fd) (hm : mg "_law_own_clauses" = some (.ref f)) : CalG P w K mg base 3 "_law_own_clauses" ["_law_leaves", "_law_gates"] sem__law_own_clauses :=
  ⟨f, fd, fn_G (k := 2) (N := ["_law_leaves", "_law_gates", "_law_found", "_law_k", "_law_one", "_law_other", "_law_gate", "_law_row", "_law_clause"]) F sc__law_own_clauses (by decide) (fun cdv A outer s H E hr => have sc := sc__law_own_clauses
    (dS_cons (dS_set (i := 2) (fun _ h => ps_set sc.nd rfl (by first | exact Or.inl rfl | exact Or.inr rfl) h) (dE_lst dVs_nil) (by decide))
    (dS_cons (dS_for (fun g tb hg hb => ps_for PassesOwn.never rfl (dI_enumA (pi_ent rfl (T.m "enumerate" (by decide)) (dVs_cons (dV_nameV (pv 1)) dVs_nil))) hg hb) (fun _ _ _ z => z) (dG_tup rfl (dGs_cons (dG_name (pg_name sc.nd rfl (by first | exact Or.inl rfl | exact Or.inr rfl))) (dGs_cons (dG_tup rfl (dGs_cons (dG_name (pg_name sc.nd rfl (by first | exact Or.inl rfl | exact Or.inr rfl))) (dGs_cons (dG_name (pg_name sc.nd rfl (by first | exact Or.inl rfl | exact Or.inr rfl))) dGs_nil))) dGs_nil)))
    (dS_cons (dS_set (i := 6) (fun _ h => ps_set sc.nd rfl (by first | exact Or.inl rfl | exact Or.inr rfl) h) (de_opS op_mulW mul_semI (dE_V dV_int) (dB_E (de_opS op_addA add_sem (de_opS op_addA add_sem (dE_V dV_int) (dB_name (pv 0))) (dB_name (pv 3))))) (by decide))
    (dS_one (dS_for (fun g tb hg hb => ps_for PassesOwn.never rfl (dI_seq (fun h => pi_list h) (fun h => pi_tup h) (dV_E (dE_lst (dVs_cons (dV_tup (dVs_cons (dV_nameV (pv 4)) (dVs_cons (dV_E (de_opN op_addA add_sem (pv 6) (dB_V dV_int))) dVs_nil))) (dVs_cons (dV_tup (dVs_cons (dV_nameV (pv 5)) (dVs_cons (dV_E (de_opN op_addA add_sem (pv 6) (dB_V dV_int))) dVs_nil))) (dVs_cons (dV_tup (dVs_cons (dV_E (de_callG c__law_flip hr (by decide) rfl (dA_slot (pv 4) dA_nil))) (dVs_cons (dV_E (de_callG c__law_flip hr (by decide) rfl (dA_slot (pv 5) dA_nil))) (dVs_cons (dV_nameV (pv 6)) dVs_nil)))) dVs_nil)))))) hg hb) (fun _ _ _ z => z) (dG_name (pg_name sc.nd rfl (by first | exact Or.inl rfl | exact Or.inr rfl)))
    (dS_cons (dS_set (i := 8) (fun _ h => ps_set sc.nd rfl (by first | exact Or.inl rfl | exact Or.inr rfl) h) (de_callG c__law_own_clause hr (by decide) rfl (dA_slot (pv 7) dA_nil)) (by decide))
    (dS_one (dS_if (dT_cmpN op_isnA isn_sem (pv 8) (dB_V dV_non) (nomark _)) (dS_one (dS_app (i := 2) (fun _ h => ps_expr (pe_bm PySem.F.plainAttrs_list PySem.F.slot_list_append PySem.F.type_list_append mt_append (pv 2) h)) (dV_nameV (pv 8)))) dS_nil))) (by decide)))) (by decide))
    (dS_one (dS_ret (dE_callT call_tuple_of (Call1.op tuple_sem) rfl (T.m "tuple" (by decide)) PyProof.Rows.boot_tuple (dBs_cons (dB_name (pv 2)) dBs_nil) (by decide) (by decide))))))), hm, F.kp, F.binds fun _ _ _ _ _ _ us hl => match us, hl with | [_, _], _ => rfl⟩

/-! ### opposite(literal): slots 0 literal -/
abbrev s_opposite : Stmt := top 9
-- d_opposite, sem_opposite: the shared ones
theorem sc_opposite : FnScope ["literal"] ["literal"] (defScope s_opposite) := ⟨rfl, rfl, rfl, by decide +kernel, rfl, by decide +kernel, by decide +kernel⟩
theorem ok_opposite {P : Program} {w : World} {K : PySem.W.Frag} {mg : Str → Option Value} {base : Heap} (T : Txt mg) (TF : FieldsOk ⟨K, mg⟩ tbl) {f : Addr} {fd : FuncData} (F : Fun K "opposite" "opposite" s_opposite f fd) (hm : mg "opposite" = some (.ref f)) : CalG P w K mg base 1 "opposite" ["literal"] sem_opposite :=
  ⟨f, fd, fn_G (k := 0) (N := ["literal"]) F sc_opposite (by decide) (fun cdv A outer s H E hr => have sc := sc_opposite
    (dS_one (dS_ret (dE_if (dT_cmpS (op_eqD (huG64 hr)) eq_sem (de_opN op_mod mod_sem (pv 0) (dB_V dV_int)) (dB_V dV_int) (nomark _)) (de_opN op_addA add_sem (pv 0) (dB_V dV_int)) (de_opN op_sub sub_sem (pv 0) (dB_V dV_int)))))), hm, F.kp, F.binds fun _ _ _ _ _ _ us hl => match us, hl with | [_], _ => rfl⟩

/-! ### clause_of(literals): slots 0 literals, 1 found, 2 literal, 3 node -/
abbrev s_clause_of : Stmt := top 12
-- d_clause_of, sem_clause_of: the shared ones
theorem sc_clause_of : FnScope ["literals", "found", "literal", "node"] ["literals"] (defScope s_clause_of) := ⟨rfl, rfl, rfl, by decide +kernel, rfl, by decide +kernel, by decide +kernel⟩
theorem ok_clause_of {P : Program} {w : World} {K : PySem.W.Frag} {mg : Str → Option Value} {base : Heap} (T : Txt mg) (TF : FieldsOk ⟨K, mg⟩ tbl) (c_opposite : CalG P w K mg base 1 "opposite" ["literal"] sem_opposite) {f : Addr} {fd : FuncData} (F : Fun K "clause_of" "clause_of" s_clause_of f fd) (hm : mg "clause_of" = some (.ref f)) : CalG P w K mg base 2 "clause_of" ["literals"] sem_clause_of :=
  ⟨f, fd, fn_G (k := 1) (N := ["literals", "found", "literal", "node"]) F sc_clause_of (by decide) (fun cdv A outer s H E hr => have sc := sc_clause_of
    (dS_cons (dS_if (PW.pt (dT_or (dT_cmpS op_inA in_sem (dE_V dV_int) (dB_name (pv 0)) (by with_unfolding_all rfl)) (dT_or1 (dT_tru (dB_E (dE_callB (cr_any rfl) (Call1.op any_sem) rfl (T.m "any" (by decide)) PyProof.Rows.boot_any (dBs_cons (dB_E (dE_lc (W' := W0) (own := [("literal", 2)]) rfl sc.nd (blkOk_by (by rfl)) (dI_seq (fun h => pi_list h) (fun h => pi_tup h) (dV_nameV (pv 0))) (fun s H C cl fp => (dG_name (pg_name sc.nd rfl (by first | exact Or.inl rfl | exact Or.inr rfl)))) (fun s H C cl fp => dTs_nil) (fun s H C cl fp => (dV_E (de_cmpS op_inA in_sem (de_callG c_opposite hr (by decide) rfl (dA_slot (pv 2) dA_nil)) (dB_name (pv 0)) (by with_unfolding_all rfl)))))) dBs_nil) (by decide) (by decide))))))) (dS_one (dS_ret (dE_V dV_non))) dS_nil)
    (dS_cons (dS_set (i := 1) (fun _ h => ps_set sc.nd rfl (by first | exact Or.inl rfl | exact Or.inr rfl) h) dE_newK (by decide))
    (dS_cons (dS_for (fun g tb hg hb => ps_for PassesOwn.never rfl (dI_seq (fun h => pi_list h) (fun h => pi_tup h) (dV_nameV (pv 0))) hg hb) (fun _ _ _ z => z) (dG_name (pg_name sc.nd rfl (by first | exact Or.inl rfl | exact Or.inr rfl)))
    (dS_one (dS_if (dT_cmpN op_gt gt_sem (pv 2) (dB_V dV_int) (nomark _)) (dS_one (dS_put (fun _ _ _ h1 h2 h3 => ps_dput (huG hr) h1 h2 h3 rfl) (pv 1) (dV_E (de_opN op_fdivW div_sem (pv 2) (dB_V dV_int))) (dV_if (dT_cmpS (op_eqD (huG64 hr)) eq_sem (de_opN op_mod mod_sem (pv 2) (dB_V dV_int)) (dB_V dV_int) (nomark _)) (dV_E (de_opN op_fdivW div_sem (pv 2) (dB_V dV_int))) (dV_neg (dV_E (de_opN op_fdivW div_sem (pv 2) (dB_V dV_int))))))) dS_nil)) (by decide))
    (dS_one (dS_ret (dE_callT call_tuple_of (Call1.op tuple_sem) rfl (T.m "tuple" (by decide)) PyProof.Rows.boot_tuple (dBs_cons (dB_E (dE_lc (W' := W0) (own := [("node", 3)]) rfl sc.nd (blkOk_by (by rfl)) (dI_seq (fun h => pi_list h) (fun h => pi_tup h) (dV_E (dE_callB (call_sortedDI rfl) (Call1.op sortDO_sem) rfl (T.m "sorted" (by decide)) PyProof.Rows.boot_sorted (dBs_cons (dB_name (pv 1)) dBs_nil) (by decide) (by decide)))) (fun s H C cl fp => (dG_name (pg_name sc.nd rfl (by first | exact Or.inl rfl | exact Or.inr rfl)))) (fun s H C cl fp => dTs_nil) (fun s H C cl fp => (dV_B (dB_subN (huG hr) (pv 1) (dV_nameV (pv 3)) (by intro _ _; rfl) (by intro _ _; rfl)))))) dBs_nil) (by decide) (by decide)))))))), hm, F.kp, F.binds fun _ _ _ _ _ _ us hl => match us, hl with | [_], _ => rfl⟩

/-! ### clauses_of(graph): slots 0 graph, 1 found, 2 k, 3 one, 4 other, 5 gate, 6 rows, 7 row, 8 clause -/
abbrev s_clauses_of : Stmt := top 13
-- d_clauses_of, sem_clauses_of: the shared ones
theorem sc_clauses_of : FnScope ["graph", "found", "k", "one", "other", "gate", "rows", "row", "clause"] ["graph"] (defScope s_clauses_of) := ⟨rfl, rfl, rfl, by decide +kernel, rfl, by decide +kernel, by decide +kernel⟩
theorem ok_clauses_of {P : Program} {w : World} {K : PySem.W.Frag} {mg : Str → Option Value} {base : Heap} (T : Txt mg) (TF : FieldsOk ⟨K, mg⟩ tbl) (c_opposite : CalG P w K mg base 1 "opposite" ["literal"] sem_opposite) (c_clause_of : CalG P w K mg base 2 "clause_of" ["literals"] sem_clause_of) {f : Addr} {fd : FuncData} (F : Fun K "clauses_of" "clauses_of" s_clauses_of f fd) (hm : mg "clauses_of" = some (.ref f)) : CalG P w K mg base 3 "clauses_of" ["graph"] sem_clauses_of :=
  ⟨f, fd, fn_G (k := 2) (N := ["graph", "found", "k", "one", "other", "gate", "rows", "row", "clause"]) F sc_clauses_of (by decide) (fun cdv A outer s H E hr => have sc := sc_clauses_of
    (dS_cons (dS_set (i := 1) (fun _ h => ps_set sc.nd rfl (by first | exact Or.inl rfl | exact Or.inr rfl) h) (dE_lst dVs_nil) (by decide))
    (dS_cons (dS_for (fun g tb hg hb => ps_for PassesOwn.never rfl (dI_enumA (pi_ent rfl (T.m "enumerate" (by decide)) (dVs_cons (dV_fldX TF (pv 0)) dVs_nil))) hg hb) (fun _ _ _ z => z) (dG_tup rfl (dGs_cons (dG_name (pg_name sc.nd rfl (by first | exact Or.inl rfl | exact Or.inr rfl))) (dGs_cons (dG_tup rfl (dGs_cons (dG_name (pg_name sc.nd rfl (by first | exact Or.inl rfl | exact Or.inr rfl))) (dGs_cons (dG_name (pg_name sc.nd rfl (by first | exact Or.inl rfl | exact Or.inr rfl))) dGs_nil))) dGs_nil)))
    (dS_cons (dS_set (i := 5) (fun _ h => ps_set sc.nd rfl (by first | exact Or.inl rfl | exact Or.inr rfl) h) (de_opS op_mulW mul_semI (dE_V dV_int) (dB_E (de_opS op_addA add_sem (de_opS op_addA add_sem (dE_V dV_int) (dB_fld TF (dB_name (pv 0)))) (dB_name (pv 2))))) (by decide))
    (dS_cons (dS_set (i := 6) (fun _ h => ps_set sc.nd rfl (by first | exact Or.inl rfl | exact Or.inr rfl) h) (dE_lst (dVs_cons (dV_tup (dVs_cons (dV_nameV (pv 3)) (dVs_cons (dV_E (de_opN op_addA add_sem (pv 5) (dB_V dV_int))) dVs_nil))) (dVs_cons (dV_tup (dVs_cons (dV_nameV (pv 4)) (dVs_cons (dV_E (de_opN op_addA add_sem (pv 5) (dB_V dV_int))) dVs_nil))) (dVs_cons (dV_tup (dVs_cons (dV_E (de_callG c_opposite hr (by decide) rfl (dA_slot (pv 3) dA_nil))) (dVs_cons (dV_E (de_callG c_opposite hr (by decide) rfl (dA_slot (pv 4) dA_nil))) (dVs_cons (dV_nameV (pv 5)) dVs_nil)))) dVs_nil)))) (by decide))
    (dS_one (dS_set (i := 1) (fun _ h => ps_set sc.nd rfl (by first | exact Or.inl rfl | exact Or.inr rfl) h) (de_opN op_addA add_sem (pv 1) (dB_E (dE_lc (W' := W0) (own := [("clause", 8)]) rfl sc.nd (blkOk_by (by rfl)) (dI_seq (fun h => pi_list h) (fun h => pi_tup h) (dV_E (dE_lc (W' := W0) (own := [("row", 7)]) rfl sc.nd (blkOk_by (by rfl)) (dI_seq (fun h => pi_list h) (fun h => pi_tup h) (dV_nameV (pv 6))) (fun s H C cl fp => (dG_name (pg_name sc.nd rfl (by first | exact Or.inl rfl | exact Or.inr rfl)))) (fun s H C cl fp => dTs_nil) (fun s H C cl fp => (dV_E (de_callG c_clause_of hr (by decide) rfl (dA_slot (pv 7) dA_nil))))))) (fun s H C cl fp => (dG_name (pg_name sc.nd rfl (by first | exact Or.inl rfl | exact Or.inr rfl)))) (fun s H C cl fp => (dTs_one (dT_cmpN op_isnA isn_sem (pv 8) (dB_V dV_non) (nomark _)))) (fun s H C cl fp => (dV_nameV (pv 8)))))) (by decide))))) (by decide))
    (dS_one (dS_ret (dE_callT call_tuple_of (Call1.op tuple_sem) rfl (T.m "tuple" (by decide)) PyProof.Rows.boot_tuple (dBs_cons (dB_name (pv 1)) dBs_nil) (by decide) (by decide))))))), hm, F.kp, F.binds fun _ _ _ _ _ _ us hl => match us, hl with | [_], _ => rfl⟩

/-! ### is_count(value): slots 0 value -/
abbrev s_is_count : Stmt := top 5
-- d_is_count, sem_is_count: the shared ones
theorem sc_is_count : FnScope ["value"] ["value"] (defScope s_is_count) := ⟨rfl, rfl, rfl, by decide +kernel, rfl, by decide +kernel, by decide +kernel⟩
theorem ok_is_count {P : Program} {w : World} {K : PySem.W.Frag} {mg : Str → Option Value} {base : Heap} (T : Txt mg) (TF : FieldsOk ⟨K, mg⟩ tbl) {f : Addr} {fd : FuncData} (F : Fun K "is_count" "is_count" s_is_count f fd) (hm : mg "is_count" = some (.ref f)) : CalG P w K mg base 1 "is_count" ["value"] sem_is_count :=
  ⟨f, fd, fn_G (k := 0) (N := ["value"]) F sc_is_count (by decide) (fun cdv A outer s H E hr => have sc := sc_is_count
    (dS_one (dS_ret (dE_V (dV_and (dV_isi1 (fun _ h => (pe_callB call_isi rfl (T.m "isinstance" (by decide)) PyProof.Rows.boot_isinstance h)) (dB_name (pv 0)) (pe_bltn rfl (T.m "int" (by decide)) PyProof.Rows.boot_int rfl)) (dV_and (dV_not (dB_V (dV_isi1 (fun _ h => (pe_callB call_isi rfl (T.m "isinstance" (by decide)) PyProof.Rows.boot_isinstance h)) (dB_name (pv 0)) (pe_bltn rfl (T.m "bool" (by decide)) PyProof.Rows.boot_bool rfl)))) (dV_one (dV_E (de_cmpN op_ge ge_sem (pv 0) (dB_V dV_int) (nomark _)))))))))), hm, F.kp, F.binds fun _ _ _ _ _ _ us hl => match us, hl with | [_], _ => rfl⟩

/-! ### is_literal(value, nodes): slots 0 value, 1 nodes -/
abbrev s_is_literal : Stmt := top 6
-- d_is_literal, sem_is_literal: the shared ones
theorem sc_is_literal : FnScope ["value", "nodes"] ["value", "nodes"] (defScope s_is_literal) := ⟨rfl, rfl, rfl, by decide +kernel, rfl, by decide +kernel, by decide +kernel⟩
theorem ok_is_literal {P : Program} {w : World} {K : PySem.W.Frag} {mg : Str → Option Value} {base : Heap} (T : Txt mg) (TF : FieldsOk ⟨K, mg⟩ tbl) (c_is_count : CalG P w K mg base 1 "is_count" ["value"] sem_is_count) {f : Addr} {fd : FuncData} (F : Fun K "is_literal" "is_literal" s_is_literal f fd) (hm : mg "is_literal" = some (.ref f)) : CalG P w K mg base 2 "is_literal" ["value", "nodes"] sem_is_literal :=
  ⟨f, fd, fn_G (k := 1) (N := ["value", "nodes"]) F sc_is_literal (by decide) (fun cdv A outer s H E hr => have sc := sc_is_literal
    (dS_one (dS_ret (dE_V (dV_and (dV_E (de_callG c_is_count hr (by decide) rfl (dA_slot (pv 0) dA_nil))) (dV_one (dV_E (de_cmpN op_lt lt_sem (pv 0) (dB_E (de_opS op_mulW mul_semI (dE_V dV_int) (dB_name (pv 1)))) (nomark _))))))))), hm, F.kp, F.binds fun _ _ _ _ _ _ us hl => match us, hl with | [_, _], _ => rfl⟩

/-! ### are_gates(leaves, gates): slots 0 leaves, 1 gates, 2 k, 3 gate, 4 literal -/
abbrev s_are_gates : Stmt := top 7
-- d_are_gates, sem_are_gates: the shared ones
theorem sc_are_gates : FnScope ["leaves", "gates", "k", "gate", "literal"] ["leaves", "gates"] (defScope s_are_gates) := ⟨rfl, rfl, rfl, by decide +kernel, rfl, by decide +kernel, by decide +kernel⟩
theorem ok_are_gates {P : Program} {w : World} {K : PySem.W.Frag} {mg : Str → Option Value} {base : Heap} (T : Txt mg) (TF : FieldsOk ⟨K, mg⟩ tbl) (c_is_literal : CalG P w K mg base 2 "is_literal" ["value", "nodes"] sem_is_literal) {f : Addr} {fd : FuncData} (F : Fun K "are_gates" "are_gates" s_are_gates f fd) (hm : mg "are_gates" = some (.ref f)) : CalG P w K mg base 3 "are_gates" ["leaves", "gates"] sem_are_gates :=
  ⟨f, fd, fn_G (k := 2) (N := ["leaves", "gates", "k", "gate", "literal"]) F sc_are_gates (by decide) (fun cdv A outer s H E hr => have sc := sc_are_gates
    (dS_cons (dS_if (dT_not (dT_tru (dB_V (dV_isi2 (fun _ h => (pe_callB call_isiT rfl (T.m "isinstance" (by decide)) PyProof.Rows.boot_isinstance h)) (dB_name (pv 1)) (pe_bltn rfl (T.m "tuple" (by decide)) PyProof.Rows.boot_tuple rfl) (pe_bltn rfl (T.m "list" (by decide)) PyProof.Rows.boot_list rfl))))) (dS_one (dS_ret (dE_V dV_bl))) dS_nil)
    (dS_cons (dS_for (fun g tb hg hb => ps_for PassesOwn.never rfl (dI_enumA (pi_ent rfl (T.m "enumerate" (by decide)) (dVs_cons (dV_nameV (pv 1)) dVs_nil))) hg hb) (fun _ _ _ z => z) (dG_tup rfl (dGs_cons (dG_name (pg_name sc.nd rfl (by first | exact Or.inl rfl | exact Or.inr rfl))) (dGs_cons (dG_name (pg_name sc.nd rfl (by first | exact Or.inl rfl | exact Or.inr rfl))) dGs_nil)))
    (dS_cons (dS_if (PW.pt (dT_or (dT_not (dT_tru (dB_V (dV_isi2 (fun _ h => (pe_callB call_isiT rfl (T.m "isinstance" (by decide)) PyProof.Rows.boot_isinstance h)) (dB_name (pv 3)) (pe_bltn rfl (T.m "tuple" (by decide)) PyProof.Rows.boot_tuple rfl) (pe_bltn rfl (T.m "list" (by decide)) PyProof.Rows.boot_list rfl))))) (dT_or1 (dT_cmpS (op_neD (huG64 hr)) ne_sem (dE_callB call_lenA (Call1.op len_sem) rfl (T.m "len" (by decide)) PySem.boot_len (dBs_cons (dB_name (pv 3)) dBs_nil) (by decide) (by decide)) (dB_V dV_int) (nomark _))))) (dS_one (dS_ret (dE_V dV_bl))) dS_nil)
    (dS_one (dS_if (dT_not (dT_tru (dB_E (dE_callB (cr_all rfl) (Call1.op all_sem) rfl (T.m "all" (by decide)) PyProof.Rows.boot_all (dBs_cons (dB_E (dE_lc (W' := W0) (own := [("literal", 4)]) rfl sc.nd (blkOk_by (by rfl)) (dI_seq (fun h => pi_list h) (fun h => pi_tup h) (dV_nameV (pv 3))) (fun s H C cl fp => (dG_name (pg_name sc.nd rfl (by first | exact Or.inl rfl | exact Or.inr rfl)))) (fun s H C cl fp => dTs_nil) (fun s H C cl fp => (dV_E (de_callG c_is_literal hr (by decide) rfl (dA_slot (pv 4) (dA_push (de_opS op_addA add_sem (de_opS op_addA add_sem (dE_V dV_int) (dB_name (pv 0))) (dB_name (pv 2))) dA_nil))))))) dBs_nil) (by decide) (by decide))))) (dS_one (dS_ret (dE_V dV_bl))) dS_nil))) (by decide))
    (dS_one (dS_ret (dE_V dV_bl)))))), hm, F.kp, F.binds fun _ _ _ _ _ _ us hl => match us, hl with | [_, _], _ => rfl⟩

/-! ### Graph.__init__(self, leaves, gates): slots 0 self, 1 leaves, 2 gates, 3 gate -/
abbrev s_Graph___init__ : Stmt := inClass (top 8) 0
-- d_Graph___init__, sem_Graph___init__: the shared ones
theorem sc_Graph___init__ : FnScope ["self", "leaves", "gates", "gate"] ["self", "leaves", "gates"] (defScope s_Graph___init__) := ⟨rfl, rfl, rfl, by decide +kernel, rfl, by decide +kernel, by decide +kernel⟩
theorem ok_Graph___init__ {P : Program} {w : World} {K : PySem.W.Frag} {mg : Str → Option Value} {base : Heap} (T : Txt mg) (TF : FieldsOk ⟨K, mg⟩ tbl) (c_is_count : CalG P w K mg base 1 "is_count" ["value"] sem_is_count) (c_are_gates : CalG P w K mg base 3 "are_gates" ["leaves", "gates"] sem_are_gates) {f : Addr} {fd : FuncData} (F : Fun K "__init__" "Graph.__init__" s_Graph___init__ f fd) : FnG P w K mg base CX0 4 f fd ["self", "leaves", "gates"] (spX ⟨K, mg⟩ 3 sem_Graph___init__) :=
  fn_G (k := 3) (N := ["self", "leaves", "gates", "gate"]) F sc_Graph___init__ (by decide) (fun cdv A outer s H E hr => have sc := sc_Graph___init__
    (dS_cons (dS_if (dT_not (dT_tru (dB_E (de_callG c_is_count hr (by decide) rfl (dA_slot (pv 1) dA_nil))))) (dS_one dS_bad) dS_nil)
    (dS_cons (dS_if (dT_not (dT_tru (dB_E (de_callG c_are_gates hr (by decide) rfl (dA_slot (pv 1) (dA_slot (pv 2) dA_nil)))))) (dS_one dS_bad) dS_nil)
    (dS_cons (dS_fldX TF (fun _ _ h1 h2 => ps_fld h1 h2 rfl) (pv 0) (dE_V (dV_nameV (pv 1))))
    (dS_one (dS_fldX TF (fun _ _ h1 h2 => ps_fld h1 h2 rfl) (pv 0) (dE_callT call_tuple_of (Call1.op tuple_sem) rfl (T.m "tuple" (by decide)) PyProof.Rows.boot_tuple (dBs_cons (dB_E (dE_lc (W' := W0) (own := [("gate", 3)]) rfl sc.nd (blkOk_by (by rfl)) (dI_seq (fun h => pi_list h) (fun h => pi_tup h) (dV_nameV (pv 2))) (fun s H C cl fp => (dG_name (pg_name sc.nd rfl (by first | exact Or.inl rfl | exact Or.inr rfl)))) (fun s H C cl fp => dTs_nil) (fun s H C cl fp => (dV_E (dE_callT call_tuple_of (Call1.op tuple_sem) rfl (T.m "tuple" (by decide)) PyProof.Rows.boot_tuple (dBs_cons (dB_name (pv 3)) dBs_nil) (by decide) (by decide)))))) dBs_nil) (by decide) (by decide))))))))

/-! ### _law_longer(_law_rows_here, _law_many): slots 0 _law_rows_here, 1 _law_many, 2 _law_found, 3 _law_row, 4 _law_number -/
abbrev s_x_law_longer : Stmt := top 22
-- d_x_law_longer, sem_x_law_longer: the shared ones
theorem sc_x_law_longer : FnScope ["_law_rows_here", "_law_many", "_law_found", "_law_row", "_law_number"] ["_law_rows_here", "_law_many"] (defScope s_x_law_longer) := ⟨rfl, rfl, rfl, by decide +kernel, rfl, by decide +kernel, by decide +kernel⟩
theorem ok_x_law_longer {P : Program} {w : World} {K : PySem.W.Frag} {mg : Str → Option Value} {base : Heap} (T : Txt mg) (TF : FieldsOk ⟨K, mg⟩ tbl) {f : Addr} {fd : FuncData} (F : Fun K "_law_longer" "_law_longer" s_x_law_longer f fd) (hm : mg "_law_longer" = some (.ref f)) : CalG P w K mg base 1 "_law_longer" ["_law_rows_here", "_law_many"] sem_x_law_longer :=
  ⟨f, fd, fn_G (k := 0) (N := ["_law_rows_here", "_law_many", "_law_found", "_law_row", "_law_number"]) F sc_x_law_longer (by decide) (fun cdv A outer s H E hr => have sc := sc_x_law_longer
    (dS_cons (dS_set (i := 2) (fun _ h => ps_set sc.nd rfl (by first | exact Or.inl rfl | exact Or.inr rfl) h) (dE_lst dVs_nil) (by decide))
    (dS_cons (dS_for (fun g tb hg hb => ps_for PassesOwn.never rfl (dI_seq (fun h => pi_list h) (fun h => pi_tup h) (dV_nameV (pv 0))) hg hb) (fun _ _ _ z => z) (dG_name (pg_name sc.nd rfl (by first | exact Or.inl rfl | exact Or.inr rfl)))
    (dS_one (dS_set (i := 2) (fun _ h => ps_set sc.nd rfl (by first | exact Or.inl rfl | exact Or.inr rfl) h) (de_opN op_addA add_sem (pv 2) (dB_E (dE_lc (W' := W0) (own := [("_law_number", 4)]) rfl sc.nd (blkOk_by (by rfl)) (dI_rngA1 (pi_range1 rfl (T.m "range" (by decide)) (dVs_cons (dV_nameV (pv 1)) dVs_nil))) (fun s H C cl fp => (dG_name (pg_name sc.nd rfl (by first | exact Or.inl rfl | exact Or.inr rfl)))) (fun s H C cl fp => dTs_nil) (fun s H C cl fp => (dV_E (de_opN op_addA add_sem (pv 3) (dB_V (dV_tup (dVs_cons (dV_nameV (pv 4)) dVs_nil))))))))) (by decide))) (by decide))
    (dS_one (dS_ret (dE_nameM (pv 2))))))), hm, F.kp, F.binds fun _ _ _ _ _ _ us hl => match us, hl with | [_, _], _ => rfl⟩

/-! ### _law_rows(_law_many): slots 0 _law_many, 1 _law_rows_here, 2 _law_k -/
abbrev s_x_law_rows : Stmt := top 23
-- d_x_law_rows, sem_x_law_rows: the shared ones
theorem sc_x_law_rows : FnScope ["_law_many", "_law_rows_here", "_law_k"] ["_law_many"] (defScope s_x_law_rows) := ⟨rfl, rfl, rfl, by decide +kernel, rfl, by decide +kernel, by decide +kernel⟩
theorem ok_x_law_rows {P : Program} {w : World} {K : PySem.W.Frag} {mg : Str → Option Value} {base : Heap} (T : Txt mg) (TF : FieldsOk ⟨K, mg⟩ tbl) (c_x_law_longer : CalG P w K mg base 1 "_law_longer" ["_law_rows_here", "_law_many"] sem_x_law_longer) {f : Addr} {fd : FuncData} (F : Fun K "_law_rows" "_law_rows" s_x_law_rows f fd) (hm : mg "_law_rows" = some (.ref f)) : CalG P w K mg base 2 "_law_rows" ["_law_many"] sem_x_law_rows :=
  ⟨f, fd, fn_G (k := 1) (N := ["_law_many", "_law_rows_here", "_law_k"]) F sc_x_law_rows (by decide) (fun cdv A outer s H E hr => have sc := sc_x_law_rows
    (dS_cons (dS_set (i := 1) (fun _ h => ps_set sc.nd rfl (by first | exact Or.inl rfl | exact Or.inr rfl) h) (dE_lst (dVs_cons (dV_tup dVs_nil) dVs_nil)) (by decide))
    (dS_cons (dS_for (fun g tb hg hb => ps_for PassesOwn.never rfl (dI_rngA1 (pi_range1 rfl (T.m "range" (by decide)) (dVs_cons (dV_nameV (pv 0)) dVs_nil))) hg hb) (fun _ _ _ z => z) (dG_name (pg_name sc.nd rfl (by first | exact Or.inl rfl | exact Or.inr rfl)))
    (dS_one (dS_set (i := 1) (fun _ h => ps_set sc.nd rfl (by first | exact Or.inl rfl | exact Or.inr rfl) h) (de_callG c_x_law_longer hr (by decide) rfl (dA_slot (pv 1) (dA_push (dE_V dV_int) dA_nil))) (by decide))) (by decide))
    (dS_one (dS_ret (dE_nameM (pv 1))))))), hm, F.kp, F.binds fun _ _ _ _ _ _ us hl => match us, hl with | [_], _ => rfl⟩

/-! ### satisfies(assignment, clause): slots 0 assignment, 1 clause, 2 number -/
abbrev s_satisfies : Stmt := top 11
-- d_satisfies, sem_satisfies: the shared ones
theorem sc_satisfies : FnScope ["assignment", "clause", "number"] ["assignment", "clause"] (defScope s_satisfies) := ⟨rfl, rfl, rfl, by decide +kernel, rfl, by decide +kernel, by decide +kernel⟩
theorem ok_satisfies {P : Program} {w : World} {K : PySem.W.Frag} {mg : Str → Option Value} {base : Heap} (T : Txt mg) (TF : FieldsOk ⟨K, mg⟩ tbl) {f : Addr} {fd : FuncData} (F : Fun K "satisfies" "satisfies" s_satisfies f fd) (hm : mg "satisfies" = some (.ref f)) : CalG P w K mg base 1 "satisfies" ["assignment", "clause"] sem_satisfies :=
  ⟨f, fd, fn_G (k := 0) (N := ["assignment", "clause", "number"]) F sc_satisfies (by decide) (fun cdv A outer s H E hr => have sc := sc_satisfies
    (dS_one (dS_ret (dE_callB (cr_any rfl) (Call1.op any_sem) rfl (T.m "any" (by decide)) PyProof.Rows.boot_any (dBs_cons (dB_E (dE_lc (W' := W0) (own := [("number", 2)]) rfl sc.nd (blkOk_by (by rfl)) (dI_seq (fun h => pi_list h) (fun h => pi_tup h) (dV_nameV (pv 1))) (fun s H C cl fp => (dG_name (pg_name sc.nd rfl (by first | exact Or.inl rfl | exact Or.inr rfl)))) (fun s H C cl fp => dTs_nil) (fun s H C cl fp => (dV_E (de_cmpS (op_eqD (huG64 hr)) eq_sem (dE_V (dV_B (dB_subN (huG hr) (pv 0) (dV_E (de_opS op_sub sub_sem (dE_callB call_abs (Call1.op abs_sem) rfl (T.m "abs" (by decide)) PyProof.Rows.boot_abs (dBs_cons (dB_name (pv 2)) dBs_nil) (by decide) (by decide)) (dB_V dV_int))) (by intro _ _; rfl) (by intro _ _; rfl)))) (dB_E (dE_callT call_int1 (Call1.op int_sem) rfl (T.m "int" (by decide)) PyProof.Rows.boot_int (dBs_cons (dB_E (de_cmpN op_gt gt_sem (pv 2) (dB_V dV_int) (nomark _))) dBs_nil) (by decide) (by decide))) (nomark _)))))) dBs_nil) (by decide) (by decide))))), hm, F.kp, F.binds fun _ _ _ _ _ _ us hl => match us, hl with | [_, _], _ => rfl⟩

/-! ### _law_keeps(_law_bits, _law_clause): slots 0 _law_bits, 1 _law_clause, 2 _law_one -/
abbrev s__law_keeps : Stmt := top 27
-- d__law_keeps, sem__law_keeps: the shared ones
theorem sc__law_keeps : FnScope ["_law_bits", "_law_clause", "_law_one"] ["_law_bits", "_law_clause"] (defScope s__law_keeps) := ⟨rfl, rfl, rfl, by decide +kernel, rfl, by decide +kernel, by decide +kernel⟩
theorem ok__law_keeps {P : Program} {w : World} {K : PySem.W.Frag} {mg : Str → Option Value} {base : Heap} (T : Txt mg) (TF : FieldsOk ⟨K, mg⟩ tbl) {f : Addr} {fd : FuncData} (F : Fun K "_law_keeps" "_law_keeps" s__law_keeps f fd) (hm : mg "_law_keeps" = some (.ref f)) : CalG P w K mg base 1 "_law_keeps" ["_law_bits", "_law_clause"] sem__law_keeps :=
  ⟨f, fd, fn_G (k := 0) (N := ["_law_bits", "_law_clause", "_law_one"]) F sc__law_keeps (by decide) (fun cdv A outer s H E hr => have sc := sc__law_keeps
    (dS_one (dS_ret (de_cmpS (op_neD (huG64 hr)) ne_sem (dE_lc (W' := W0) (own := [("_law_one", 2)]) rfl sc.nd (blkOk_by (by rfl)) (dI_seq (fun h => pi_list h) (fun h => pi_tup h) (dV_nameV (pv 1))) (fun s H C cl fp => (dG_name (pg_name sc.nd rfl (by first | exact Or.inl rfl | exact Or.inr rfl)))) (fun s H C cl fp => (dTs_one (dT_cmpS (op_eqD (huG64 hr)) eq_sem (dE_V (dV_B (dB_subN (huG hr) (pv 0) (dV_E (de_opS op_sub sub_sem (dE_callB call_abs (Call1.op abs_sem) rfl (T.m "abs" (by decide)) PyProof.Rows.boot_abs (dBs_cons (dB_name (pv 2)) dBs_nil) (by decide) (by decide)) (dB_V dV_int))) (by intro _ _; rfl) (by intro _ _; rfl)))) (dB_E (dE_callT call_int1 (Call1.op int_sem) rfl (T.m "int" (by decide)) PyProof.Rows.boot_int (dBs_cons (dB_E (de_cmpN op_gt gt_sem (pv 2) (dB_V dV_int) (nomark _))) dBs_nil) (by decide) (by decide))) (nomark _)))) (fun s H C cl fp => dV_int)) (dB_E (dE_lst dVs_nil)) (nomark _))))), hm, F.kp, F.binds fun _ _ _ _ _ _ us hl => match us, hl with | [_, _], _ => rfl⟩

/-! ### _law_bit(_law_found, _law_literal): slots 0 _law_found, 1 _law_literal -/
abbrev s__law_bit : Stmt := top 20
-- d__law_bit, sem__law_bit: the shared ones
theorem sc__law_bit : FnScope ["_law_found", "_law_literal"] ["_law_found", "_law_literal"] (defScope s__law_bit) := ⟨rfl, rfl, rfl, by decide +kernel, rfl, by decide +kernel, by decide +kernel⟩
theorem ok__law_bit {P : Program} {w : World} {K : PySem.W.Frag} {mg : Str → Option Value} {base : Heap} (T : Txt mg) (TF : FieldsOk ⟨K, mg⟩ tbl) {f : Addr} {fd : FuncData} (F : Fun K "_law_bit" "_law_bit" s__law_bit f fd) (hm : mg "_law_bit" = some (.ref f)) : CalG P w K mg base 1 "_law_bit" ["_law_found", "_law_literal"] sem__law_bit :=
  ⟨f, fd, fn_G (k := 0) (N := ["_law_found", "_law_literal"]) F sc__law_bit (by decide) (fun cdv A outer s H E hr => have sc := sc__law_bit
    (dS_one (dS_ret (dE_callB call_abs (Call1.op abs_sem) rfl (T.m "abs" (by decide)) PyProof.Rows.boot_abs (dBs_cons (dB_E (de_opS op_sub sub_sem (dE_V (dV_B (dB_subN (huG hr) (pv 0) (dV_E (de_opN op_fdivW div_sem (pv 1) (dB_V dV_int))) (by intro _ _; rfl) (by intro _ _; rfl)))) (dB_E (de_opS op_mod mod_sem (dE_callT call_int1 (Call1.op int_sem) rfl (T.m "int" (by decide)) PyProof.Rows.boot_int (dBs_cons (dB_name (pv 1)) dBs_nil) (by decide) (by decide)) (dB_V dV_int))))) dBs_nil) (by decide) (by decide))))), hm, F.kp, F.binds fun _ _ _ _ _ _ us hl => match us, hl with | [_, _], _ => rfl⟩

/-! ### _law_values(_law_leaves, _law_gates, _law_bits): slots 0 _law_leaves, 1 _law_gates, 2 _law_bits, 3 _law_found, 4 _law_one, 5 _law_two -/
abbrev s__law_values : Stmt := top 19
-- d__law_values, sem__law_values: the shared ones
theorem sc__law_values : FnScope ["_law_leaves", "_law_gates", "_law_bits", "_law_found", "_law_one", "_law_two"] ["_law_leaves", "_law_gates", "_law_bits"] (defScope s__law_values) := ⟨rfl, rfl, rfl, by decide +kernel, rfl, by decide +kernel, by decide +kernel⟩
theorem ok__law_values {P : Program} {w : World} {K : PySem.W.Frag} {mg : Str → Option Value} {base : Heap} (T : Txt mg) (TF : FieldsOk ⟨K, mg⟩ tbl) (c__law_bit : CalG P w K mg base 1 "_law_bit" ["_law_found", "_law_literal"] sem__law_bit) {f : Addr} {fd : FuncData} (F : Fun K "_law_values" "_law_values" s__law_values f fd) (hm : mg "_law_values" = some (.ref f)) : CalG P w K mg base 2 "_law_values" ["_law_leaves", "_law_gates", "_law_bits"] sem__law_values :=
  ⟨f, fd, fn_G (k := 1) (N := ["_law_leaves", "_law_gates", "_law_bits", "_law_found", "_law_one", "_law_two"]) F sc__law_values (by decide) (fun cdv A outer s H E hr => have sc := sc__law_values
    (dS_cons (dS_set (i := 3) (fun _ h => ps_set sc.nd rfl (by first | exact Or.inl rfl | exact Or.inr rfl) h) (de_opS op_addA add_sem (dE_lst (dVs_cons dV_int dVs_nil)) (dB_E (dE_callT call_list_of (Call1.op list_sem) rfl (T.m "list" (by decide)) PyProof.Rows.boot_list (dBs_cons (dB_name (pv 2)) dBs_nil) (by decide) (by decide)))) (by decide))
    (dS_cons (dS_for (fun g tb hg hb => ps_for PassesOwn.never rfl (dI_seq (fun h => pi_list h) (fun h => pi_tup h) (dV_nameV (pv 1))) hg hb) (fun _ _ _ z => z) (dG_tup rfl (dGs_cons (dG_name (pg_name sc.nd rfl (by first | exact Or.inl rfl | exact Or.inr rfl))) (dGs_cons (dG_name (pg_name sc.nd rfl (by first | exact Or.inl rfl | exact Or.inr rfl))) dGs_nil)))
    (dS_one (dS_app (i := 3) (fun _ h => ps_expr (pe_bm PySem.F.plainAttrs_list PySem.F.slot_list_append PySem.F.type_list_append mt_append (pv 3) h)) (dV_E (de_opS op_mulW mul_semI (de_callG c__law_bit hr (by decide) rfl (dA_slot (pv 3) (dA_slot (pv 4) dA_nil))) (dB_E (de_callG c__law_bit hr (by decide) rfl (dA_slot (pv 3) (dA_slot (pv 5) dA_nil)))))))) (by decide))
    (dS_one (dS_ret (dE_nameM (pv 3))))))), hm, F.kp, F.binds fun _ _ _ _ _ _ us hl => match us, hl with | [_, _, _], _ => rfl⟩

/-! ### _law_literals(_law_pen_here, _law_nodes, _law_many): slots 0 _law_pen_here, 1 _law_nodes, 2 _law_many, 3 _law_k -/
abbrev s__law_literals : Stmt := top 24
-- d__law_literals, sem__law_literals: the shared ones
theorem sc__law_literals : FnScope ["_law_pen_here", "_law_nodes", "_law_many", "_law_k"] ["_law_pen_here", "_law_nodes", "_law_many"] (defScope s__law_literals) := ⟨rfl, rfl, rfl, by decide +kernel, rfl, by decide +kernel, by decide +kernel⟩
theorem ok__law_literals {P : Program} {w : World} {K : PySem.W.Frag} {mg : Str → Option Value} {base : Heap} (T : Txt mg) (TF : FieldsOk ⟨K, mg⟩ tbl) (c__law_draw : CalG P w K mg base 1 "_law_draw" ["_law_pen_here", "_law_many"] sem__law_draw) {f : Addr} {fd : FuncData} (F : Fun K "_law_literals" "_law_literals" s__law_literals f fd) (hm : mg "_law_literals" = some (.ref f)) : CalG P w K mg base 2 "_law_literals" ["_law_pen_here", "_law_nodes", "_law_many"] sem__law_literals :=
  ⟨f, fd, fn_G (k := 1) (N := ["_law_pen_here", "_law_nodes", "_law_many", "_law_k"]) F sc__law_literals (by decide) (fun cdv A outer s H E hr => have sc := sc__law_literals
    (dS_one (dS_ret (dE_callT call_tuple_of (Call1.op tuple_sem) rfl (T.m "tuple" (by decide)) PyProof.Rows.boot_tuple (dBs_cons (dB_E (dE_lc (W' := W0) (own := [("_law_k", 3)]) rfl sc.nd (blkOk_by (by rfl)) (dI_rngA1 (pi_range1 rfl (T.m "range" (by decide)) (dVs_cons (dV_nameV (pv 2)) dVs_nil))) (fun s H C cl fp => (dG_name (pg_name sc.nd rfl (by first | exact Or.inl rfl | exact Or.inr rfl)))) (fun s H C cl fp => dTs_nil) (fun s H C cl fp => (dV_E (de_callG c__law_draw hr (by decide) rfl (dA_slot (pv 0) (dA_push (de_opS op_mulW mul_semI (dE_V dV_int) (dB_name (pv 1))) dA_nil))))))) dBs_nil) (by decide) (by decide))))), hm, F.kp, F.binds fun _ _ _ _ _ _ us hl => match us, hl with | [_, _, _], _ => rfl⟩

/-! ### _law_pick(_law_pen_here, _law_some): slots 0 _law_pen_here, 1 _law_some -/
abbrev s__law_pick : Stmt := top 17
-- d__law_pick, sem__law_pick: the shared ones
theorem sc__law_pick : FnScope ["_law_pen_here", "_law_some"] ["_law_pen_here", "_law_some"] (defScope s__law_pick) := ⟨rfl, rfl, rfl, by decide +kernel, rfl, by decide +kernel, by decide +kernel⟩
theorem ok__law_pick {P : Program} {w : World} {K : PySem.W.Frag} {mg : Str → Option Value} {base : Heap} (T : Txt mg) (TF : FieldsOk ⟨K, mg⟩ tbl) (c__law_draw : CalG P w K mg base 1 "_law_draw" ["_law_pen_here", "_law_many"] sem__law_draw) {f : Addr} {fd : FuncData} (F : Fun K "_law_pick" "_law_pick" s__law_pick f fd) (hm : mg "_law_pick" = some (.ref f)) : CalG P w K mg base 2 "_law_pick" ["_law_pen_here", "_law_some"] sem__law_pick :=
  ⟨f, fd, fn_G (k := 1) (N := ["_law_pen_here", "_law_some"]) F sc__law_pick (by decide) (fun cdv A outer s H E hr => have sc := sc__law_pick
    (dS_one (dS_ret (dE_V (dV_B (dB_subN (huG hr) (pv 1) (dV_E (de_callG c__law_draw hr (by decide) rfl (dA_slot (pv 0) (dA_push (dE_callB call_lenA (Call1.op len_sem) rfl (T.m "len" (by decide)) PySem.boot_len (dBs_cons (dB_name (pv 1)) dBs_nil) (by decide) (by decide)) dA_nil)))) (by intro _ _; rfl) (by intro _ _; rfl))))))), hm, F.kp, F.binds fun _ _ _ _ _ _ us hl => match us, hl with | [_, _], _ => rfl⟩

/-! ### law(_law_script): slots 0 _law_script, 1 _law_pen_here, 2 _law_lap, 3 _law_leaves, 4 _law_gates, 5 _law_told, 6 _law_due, 7 _law_ways, 8 _law_bits, 9 _law_kept, 10 _law_turn, 11 _law_nodes, 12 _law_row, 13 _law_passed, 14 _law_clause, 15 _law_one -/
abbrev s_law : Stmt := top 28
def d_law : MS :=
  (sSeq (sAsg 1 (mCallF sem__law_pen [some 0] (mHas 0 (mPure []))))
  (sSeq (sFor (mBind (mCons (mPure (.int 2)) (mPure [])) rngA1) (bName 2)
  (sSeq (sAsg 3 (mCallF sem__law_draw [some 1, none] (mHas 1 (mConsO (mMap O.sh (mPure (.int 5))) (mPure [])))))
  (sSeq (sAsg 4 (mCallF sem__law_drawn_gates [some 1, some 3, none] (mHas 1 (mHas 3 (mConsO (mCallF sem__law_draw [some 1, none] (mHas 1 (mConsO (mMap O.sh (mPure (.int 7))) (mPure [])))) (mPure []))))))
  (sSeq (sPar 5 6 (mConsO (mCallF sem_clauses_of [none] (mConsO (mMakeX "Graph" sem_Graph___init__ [some 3, some 4] (mHas 3 (mHas 4 (mPure [])))) (mPure []))) (mConsO (mCallF sem__law_own_clauses [some 3, some 4] (mHas 3 (mHas 4 (mPure [])))) (mPure []))))
  (sSeq (sIf (mBl (mOpS neS (mCall (f1 reprD) (mConsB true (mNameB 5) (mPure []))) (mMap (fun o => ((none : Option Nat), o)) (mCall (f1 reprD) (mConsB true (mNameB 6) (mPure [])))))) (sRet (mMap O.sh (mPure (.bl false)))) sNext)
  (sSeq (sAsg 7 mNewT)
  (sSeq (sFor (mBind (mMap O.toD (mCallF sem_x_law_rows [none] (mConsO (mOpN 3 addD (mMap (fun o => ((none : Option Nat), o)) (mCall (f1 lenD) (mConsB true (mNameB 4) (mPure []))))) (mPure [])))) seqD) (bName 8)
  (sSeq (sAsg 9 (mLc [14] (mBind (mNameV 5) seqD) (bName 14) (mPure true) (mMap O.toD (mCallF sem_satisfies [some 8, some 14] (mHas 8 (mHas 14 (mPure [])))))))
  (sSeq (sIf (mBl (mOpS neO (mLc [15] (mBind (mNameV 9) seqD) (bName 15) (mMap (fun b => !b) (mTru (mMap (fun d => ((none : Option Nat), O.sh d)) (mIsi ["bool"] (mNameB 15))))) (mPure (.int 1))) (mMap (fun o => ((none : Option Nat), o)) (mLst (mPure []))))) (sRet (mMap O.sh (mPure (.bl false)))) sNext)
  (sSeq (sIf (mBl (mOpN 9 neO (mMap (fun o => ((none : Option Nat), o)) (mLc [14] (mBind (mNameV 6) seqD) (bName 14) (mPure true) (mMap O.toD (mCallF sem__law_keeps [some 8, some 14] (mHas 8 (mHas 14 (mPure []))))))))) (sRet (mMap O.sh (mPure (.bl false)))) sNext)
  (sIf (mBl (mOpS (inO true) (mMap O.sh (mPure (.bl false))) (mNameB 9))) (sPut 7 (mMap O.toD (mSlice true false (mNameB 8) (mPure none) (mPart (mNameV 3)))) (mMap O.toD (mOpS addD (mMap O.sh (mGet2 7 (mMap O.toD (mSlice true false (mNameB 8) (mPure none) (mPart (mNameV 3)))) (mMap O.toD (mLst (mPure []))))) (mMap (fun o => ((none : Option Nat), o)) (mLst (mCons (mNameV 8) (mPure []))))))) sNext)))))
  (sFor (mBind (mMap O.toD (mCallF sem_x_law_rows [some 3] (mHas 3 (mPure [])))) seqD) (bName 8)
  (sIf (mBl (mOpS neO (mMap O.sh (mGet1 7 (mNameV 8))) (mMap (fun o => ((none : Option Nat), o)) (mLst (mCons (mMap O.toD (mCall (f1 tupleD) (mConsB true (mMap (fun o => ((none : Option Nat), o)) (mSlice true true (mMap (fun o => ((none : Option Nat), o)) (mCallF sem__law_values [some 3, some 4, some 8] (mHas 3 (mHas 4 (mHas 8 (mPure [])))))) (mPart (mPure (.int 1))) (mPure none))) (mPure [])))) (mPure [])))))) (sRet (mMap O.sh (mPure (.bl false)))) sNext)))))))))
  (sSeq (sFor (mBind (mCons (mPure (.int 12)) (mPure [])) rngA1) (bName 10)
  (sSeq (sAsg 11 (mOpS addD (mMap O.sh (mPure (.int 2))) (mMap (fun o => ((none : Option Nat), o)) (mCallF sem__law_draw [some 1, none] (mHas 1 (mConsO (mMap O.sh (mPure (.int 4))) (mPure [])))))))
  (sSeq (sAsg 12 (mCallF sem__law_literals [some 1, some 11, none] (mHas 1 (mHas 11 (mConsO (mCallF sem__law_draw [some 1, none] (mHas 1 (mConsO (mMap O.sh (mPure (.int 8))) (mPure [])))) (mPure []))))))
  (sSeq (sAsg 6 (mCallF sem__law_own_clause [some 12] (mHas 12 (mPure []))))
  (sSeq (sIf (mBl (mOpS neS (mCall (f1 reprD) (mConsB true (mMap (fun o => ((none : Option Nat), o)) (mCallF sem_clause_of [none] (mConsO (mCallF sem__law_pick [some 1, none] (mHas 1 (mConsO (mLst (mCons (mNameV 12) (mCons (mMap O.toD (mCall (f1 listD) (mConsB true (mNameB 12) (mPure [])))) (mPure [])))) (mPure [])))) (mPure [])))) (mPure []))) (mMap (fun o => ((none : Option Nat), o)) (mCall (f1 reprD) (mConsB true (mNameB 6) (mPure [])))))) (sRet (mMap O.sh (mPure (.bl false)))) sNext)
  (sSeq (sIf (mBl (mOpN 6 isO (mMap (fun d => ((none : Option Nat), O.sh d)) (mPure .non)))) sCont sNext)
  (sFor (mBind (mMap O.toD (mCallF sem_x_law_rows [none] (mConsO (mOpN 11 (liftI subI) (mMap (fun d => ((none : Option Nat), O.sh d)) (mPure (.int 1)))) (mPure [])))) seqD) (bName 8)
  (sSeq (sAsg 13 (mCallF sem__law_pick [some 1, none] (mHas 1 (mConsO (mLst (mCons (mNameV 8) (mCons (mMap O.toD (mCall (f1 listD) (mConsB true (mNameB 8) (mPure [])))) (mPure [])))) (mPure [])))))
  (sIf (mBl (mOpS neS (mCall (f1 reprD) (mConsB true (mMap (fun o => ((none : Option Nat), o)) (mCallF sem_satisfies [some 13, none] (mHas 13 (mConsO (mCallF sem__law_pick [some 1, none] (mHas 1 (mConsO (mLst (mCons (mNameV 6) (mCons (mMap O.toD (mCall (f1 listD) (mConsB true (mNameB 6) (mPure [])))) (mPure [])))) (mPure [])))) (mPure []))))) (mPure []))) (mMap (fun o => ((none : Option Nat), o)) (mCall (f1 reprD) (mConsB true (mMap (fun o => ((none : Option Nat), o)) (mCallF sem__law_keeps [some 8, some 6] (mHas 8 (mHas 6 (mPure []))))) (mPure [])))))) (sRet (mMap O.sh (mPure (.bl false)))) sNext)))))))))
  (sRet (mMap O.sh (mAndV (mMap O.toD (mOpS isO (mCallF sem_satisfies [none, none] (mConsO (mMap O.sh (mTup (mCons (mPure (.int 0)) (mCons (mPure (.int 1)) (mPure []))))) (mConsO (mMap O.sh (mTup (mPure []))) (mPure [])))) (mMap (fun d => ((none : Option Nat), O.sh d)) (mPure (.bl false))))) (mMap O.toD (mOpS isO (mCallF sem_satisfies [none, none] (mConsO (mLst (mCons (mPure (.int 0)) (mCons (mPure (.int 1)) (mPure [])))) (mConsO (mMap O.sh (mTup (mCons (mNeg (mPure (.int 1))) (mPure [])))) (mPure [])))) (mMap (fun d => ((none : Option Nat), O.sh d)) (mPure (.bl true)))))))))))
def sem_law : Sem := semOf 16 1 [0] d_law
theorem sc_law : FnScope ["_law_script", "_law_pen_here", "_law_lap", "_law_leaves", "_law_gates", "_law_told", "_law_due", "_law_ways", "_law_bits", "_law_kept", "_law_turn", "_law_nodes", "_law_row", "_law_passed", "_law_clause", "_law_one"] ["_law_script"] (defScope s_law) := ⟨rfl, rfl, rfl, by decide +kernel, rfl, by decide +kernel, by decide +kernel⟩
theorem ok_law {P : Program} {w : World} {K : PySem.W.Frag} {mg : Str → Option Value} {base : Heap} (T : Txt mg) (TF : FieldsOk ⟨K, mg⟩ tbl) (c__law_pen : CalG P w K mg base 1 "_law_pen" ["_law_script"] sem__law_pen) (c__law_draw : CalG P w K mg base 1 "_law_draw" ["_law_pen_here", "_law_many"] sem__law_draw) (c__law_drawn_gates : CalG P w K mg base 2 "_law_drawn_gates" ["_law_pen_here", "_law_leaves", "_law_many"] sem__law_drawn_gates) (c__law_own_clauses : CalG P w K mg base 3 "_law_own_clauses" ["_law_leaves", "_law_gates"] sem__law_own_clauses) (c_clauses_of : CalG P w K mg base 3 "clauses_of" ["graph"] sem_clauses_of) (c_Graph___init__ : MakG P w K mg base 4 "Graph" ["self", "leaves", "gates"] sem_Graph___init__) (c_x_law_rows : CalG P w K mg base 2 "_law_rows" ["_law_many"] sem_x_law_rows) (c_satisfies : CalG P w K mg base 1 "satisfies" ["assignment", "clause"] sem_satisfies) (c__law_keeps : CalG P w K mg base 1 "_law_keeps" ["_law_bits", "_law_clause"] sem__law_keeps) (c__law_values : CalG P w K mg base 2 "_law_values" ["_law_leaves", "_law_gates", "_law_bits"] sem__law_values) (c__law_literals : CalG P w K mg base 2 "_law_literals" ["_law_pen_here", "_law_nodes", "_law_many"] sem__law_literals) (c__law_own_clause : CalG P w K mg base 2 "_law_own_clause" ["_law_literals_here"] sem__law_own_clause) (c_clause_of : CalG P w K mg base 2 "clause_of" ["literals"] sem_clause_of) (c__law_pick : CalG P w K mg base 2 "_law_pick" ["_law_pen_here", "_law_some"] sem__law_pick) {f : Addr} {fd : FuncData} (F : Fun K "law" "law" s_law f fd) : FnG P w K mg base CX0 6 f fd ["_law_script"] (spX ⟨K, mg⟩ 1 sem_law) :=
  fn_G (k := 5) (N := ["_law_script", "_law_pen_here", "_law_lap", "_law_leaves", "_law_gates", "_law_told", "_law_due", "_law_ways", "_law_bits", "_law_kept", "_law_turn", "_law_nodes", "_law_row", "_law_passed", "_law_clause", "_law_one"]) F sc_law (by decide) (fun cdv A outer s H E hr => have sc := sc_law
    (dS_cons (dS_set (i := 1) (fun _ h => ps_set sc.nd rfl (by first | exact Or.inl rfl | exact Or.inr rfl) h) (de_callG c__law_pen hr (by decide) rfl (dA_slot (pv 0) dA_nil)) (by decide))
    (dS_cons (dS_for (fun g tb hg hb => ps_for PassesOwn.never rfl (dI_rngA1 (pi_range1 rfl (T.m "range" (by decide)) (dVs_cons dV_int dVs_nil))) hg hb) (fun _ _ _ z => z) (dG_name (pg_name sc.nd rfl (by first | exact Or.inl rfl | exact Or.inr rfl)))
    (dS_cons (dS_set (i := 3) (fun _ h => ps_set sc.nd rfl (by first | exact Or.inl rfl | exact Or.inr rfl) h) (de_callG c__law_draw hr (by decide) rfl (dA_slot (pv 1) (dA_push (dE_V dV_int) dA_nil))) (by decide))
    (dS_cons (dS_set (i := 4) (fun _ h => ps_set sc.nd rfl (by first | exact Or.inl rfl | exact Or.inr rfl) h) (de_callG c__law_drawn_gates hr (by decide) rfl (dA_slot (pv 1) (dA_slot (pv 3) (dA_push (de_callG c__law_draw hr (by decide) rfl (dA_slot (pv 1) (dA_push (dE_V dV_int) dA_nil))) dA_nil)))) (by decide))
    (dS_cons (dS_par (fun _ h => ps_par rfl sc.nd (i := 5) (j := 6) rfl rfl (by decide) rfl rfl h rfl) (dEs_cons (de_callG c_clauses_of hr (by decide) rfl (dA_push (de_makeG c_Graph___init__ hr (by decide) rfl (dA_slot (pv 3) (dA_slot (pv 4) dA_nil))) dA_nil)) (dEs_cons (de_callG c__law_own_clauses hr (by decide) rfl (dA_slot (pv 3) (dA_slot (pv 4) dA_nil))) dEs_nil)) (by decide) (by decide) (by decide))
    (dS_cons (dS_if (dT_cmpS op_ne neS_sem (dE_callB (cr_repr hr) (Call1.op repr_sem) rfl (T.m "repr" (by decide)) PyProof.Rows.boot_repr (dBs_cons (dB_name (pv 5)) dBs_nil) (by decide) (by decide)) (dB_E (dE_callB (cr_repr hr) (Call1.op repr_sem) rfl (T.m "repr" (by decide)) PyProof.Rows.boot_repr (dBs_cons (dB_name (pv 6)) dBs_nil) (by decide) (by decide))) (nomark _)) (dS_one (dS_ret (dE_V dV_bl))) dS_nil)
    (dS_cons (dS_set (i := 7) (fun _ h => ps_set sc.nd rfl (by first | exact Or.inl rfl | exact Or.inr rfl) h) dE_newT (by decide))
    (dS_cons (dS_for (fun g tb hg hb => ps_for PassesOwn.never rfl (dI_seq (fun h => pi_list h) (fun h => pi_tup h) (dV_E (de_callG c_x_law_rows hr (by decide) rfl (dA_push (de_opN op_addA add_sem (pv 3) (dB_E (dE_callB call_lenA (Call1.op len_sem) rfl (T.m "len" (by decide)) PySem.boot_len (dBs_cons (dB_name (pv 4)) dBs_nil) (by decide) (by decide)))) dA_nil)))) hg hb) (fun _ _ _ z => z) (dG_name (pg_name sc.nd rfl (by first | exact Or.inl rfl | exact Or.inr rfl)))
    (dS_cons (dS_setLc (W' := W0) (own := [("_law_clause", 14)]) rfl sc.nd rfl rfl (sw_true rfl rfl rfl (by decide +kernel)) (blkOk_by (by rfl)) (dI_seq (fun h => pi_list h) (fun h => pi_tup h) (dV_nameV (pv 5))) (fun s H C cl fp => (dG_name (pg_name sc.nd rfl (by first | exact Or.inl rfl | exact Or.inr rfl)))) (fun s H C cl fp => dTs_nil) (fun s H C cl fp => (dV_E (de_callG c_satisfies hr (by decide) rfl (dA_slot (pv 8) (dA_slot (pv 14) dA_nil))))) (by decide))
    (dS_cons (dS_if (dT_cmpS (op_neD (huG64 hr)) ne_sem (dE_lc (W' := W0) (own := [("_law_one", 15)]) rfl sc.nd (blkOk_by (by rfl)) (dI_seq (fun h => pi_list h) (fun h => pi_tup h) (dV_nameV (pv 9))) (fun s H C cl fp => (dG_name (pg_name sc.nd rfl (by first | exact Or.inl rfl | exact Or.inr rfl)))) (fun s H C cl fp => (dTs_one (dT_not (dT_tru (dB_V (dV_isi1 (fun _ h => (pe_callB call_isi rfl (T.m "isinstance" (by decide)) PyProof.Rows.boot_isinstance h)) (dB_name (pv 15)) (pe_bltn rfl (T.m "bool" (by decide)) PyProof.Rows.boot_bool rfl))))))) (fun s H C cl fp => dV_int)) (dB_E (dE_lst dVs_nil)) (nomark _)) (dS_one (dS_ret (dE_V dV_bl))) dS_nil)
    (dS_cons (dS_if (dT_cmpN (op_neD (huG64 hr)) ne_sem (pv 9) (dB_E (dE_lc (W' := W0) (own := [("_law_clause", 14)]) rfl sc.nd (blkOk_by (by rfl)) (dI_seq (fun h => pi_list h) (fun h => pi_tup h) (dV_nameV (pv 6))) (fun s H C cl fp => (dG_name (pg_name sc.nd rfl (by first | exact Or.inl rfl | exact Or.inr rfl)))) (fun s H C cl fp => dTs_nil) (fun s H C cl fp => (dV_E (de_callG c__law_keeps hr (by decide) rfl (dA_slot (pv 8) (dA_slot (pv 14) dA_nil))))))) (nomark _)) (dS_one (dS_ret (dE_V dV_bl))) dS_nil)
    (dS_one (dS_if (dT_cmpS op_ninA in_sem (dE_V dV_bl) (dB_name (pv 9)) (by with_unfolding_all rfl)) (dS_one (dS_put (fun _ _ _ h1 h2 h3 => ps_dput (huG hr) h1 h2 h3 rfl) (pv 7) (dV_E (dE_slice (dB_name (pv 8)) dI_none (dI_some (dV_no (dV_nameV (pv 3)))))) (dV_E (de_opS op_addA add_sem (dE_V (dV_get2 (huG hr) (pv 7) (dV_E (dE_slice (dB_name (pv 8)) dI_none (dI_some (dV_no (dV_nameV (pv 3)))))) (dV_E (dE_lst dVs_nil)) ⟨rfl, rfl, rfl, rfl⟩)) (dB_E (dE_lst (dVs_cons (dV_nameV (pv 8)) dVs_nil))))))) dS_nil))))) (by decide))
    (dS_one (dS_for (fun g tb hg hb => ps_for PassesOwn.never rfl (dI_seq (fun h => pi_list h) (fun h => pi_tup h) (dV_E (de_callG c_x_law_rows hr (by decide) rfl (dA_slot (pv 3) dA_nil)))) hg hb) (fun _ _ _ z => z) (dG_name (pg_name sc.nd rfl (by first | exact Or.inl rfl | exact Or.inr rfl)))
    (dS_one (dS_if (dT_cmpS (op_neD (huG64 hr)) ne_sem (dE_V (dV_get1 (huG hr) (pv 7) (dV_nameV (pv 8)) ⟨rfl, rfl, rfl, rfl⟩)) (dB_E (dE_lst (dVs_cons (dV_E (dE_callT call_tuple_of (Call1.op tuple_sem) rfl (T.m "tuple" (by decide)) PyProof.Rows.boot_tuple (dBs_cons (dB_E (dE_slice (dB_E (de_callG c__law_values hr (by decide) rfl (dA_slot (pv 3) (dA_slot (pv 4) (dA_slot (pv 8) dA_nil))))) (dI_some dV_int) dI_none)) dBs_nil) (by decide) (by decide))) dVs_nil))) (nomark _)) (dS_one (dS_ret (dE_V dV_bl))) dS_nil)) (by decide))))))))) (by decide))
    (dS_cons (dS_for (fun g tb hg hb => ps_for PassesOwn.never rfl (dI_rngA1 (pi_range1 rfl (T.m "range" (by decide)) (dVs_cons dV_int dVs_nil))) hg hb) (fun _ _ _ z => z) (dG_name (pg_name sc.nd rfl (by first | exact Or.inl rfl | exact Or.inr rfl)))
    (dS_cons (dS_set (i := 11) (fun _ h => ps_set sc.nd rfl (by first | exact Or.inl rfl | exact Or.inr rfl) h) (de_opS op_addA add_sem (dE_V dV_int) (dB_E (de_callG c__law_draw hr (by decide) rfl (dA_slot (pv 1) (dA_push (dE_V dV_int) dA_nil))))) (by decide))
    (dS_cons (dS_set (i := 12) (fun _ h => ps_set sc.nd rfl (by first | exact Or.inl rfl | exact Or.inr rfl) h) (de_callG c__law_literals hr (by decide) rfl (dA_slot (pv 1) (dA_slot (pv 11) (dA_push (de_callG c__law_draw hr (by decide) rfl (dA_slot (pv 1) (dA_push (dE_V dV_int) dA_nil))) dA_nil)))) (by decide))
    (dS_cons (dS_set (i := 6) (fun _ h => ps_set sc.nd rfl (by first | exact Or.inl rfl | exact Or.inr rfl) h) (de_callG c__law_own_clause hr (by decide) rfl (dA_slot (pv 12) dA_nil)) (by decide))
    (dS_cons (dS_if (dT_cmpS op_ne neS_sem (dE_callB (cr_repr hr) (Call1.op repr_sem) rfl (T.m "repr" (by decide)) PyProof.Rows.boot_repr (dBs_cons (dB_E (de_callG c_clause_of hr (by decide) rfl (dA_push (de_callG c__law_pick hr (by decide) rfl (dA_slot (pv 1) (dA_push (dE_lst (dVs_cons (dV_nameV (pv 12)) (dVs_cons (dV_E (dE_callT call_list_of (Call1.op list_sem) rfl (T.m "list" (by decide)) PyProof.Rows.boot_list (dBs_cons (dB_name (pv 12)) dBs_nil) (by decide) (by decide))) dVs_nil))) dA_nil))) dA_nil))) dBs_nil) (by decide) (by decide)) (dB_E (dE_callB (cr_repr hr) (Call1.op repr_sem) rfl (T.m "repr" (by decide)) PyProof.Rows.boot_repr (dBs_cons (dB_name (pv 6)) dBs_nil) (by decide) (by decide))) (nomark _)) (dS_one (dS_ret (dE_V dV_bl))) dS_nil)
    (dS_cons (dS_if (dT_cmpN op_isA is_sem (pv 6) (dB_V dV_non) (nomark _)) (dS_one dS_cont) dS_nil)
    (dS_one (dS_for (fun g tb hg hb => ps_for PassesOwn.never rfl (dI_seq (fun h => pi_list h) (fun h => pi_tup h) (dV_E (de_callG c_x_law_rows hr (by decide) rfl (dA_push (de_opN op_sub sub_sem (pv 11) (dB_V dV_int)) dA_nil)))) hg hb) (fun _ _ _ z => z) (dG_name (pg_name sc.nd rfl (by first | exact Or.inl rfl | exact Or.inr rfl)))
    (dS_cons (dS_set (i := 13) (fun _ h => ps_set sc.nd rfl (by first | exact Or.inl rfl | exact Or.inr rfl) h) (de_callG c__law_pick hr (by decide) rfl (dA_slot (pv 1) (dA_push (dE_lst (dVs_cons (dV_nameV (pv 8)) (dVs_cons (dV_E (dE_callT call_list_of (Call1.op list_sem) rfl (T.m "list" (by decide)) PyProof.Rows.boot_list (dBs_cons (dB_name (pv 8)) dBs_nil) (by decide) (by decide))) dVs_nil))) dA_nil))) (by decide))
    (dS_one (dS_if (dT_cmpS op_ne neS_sem (dE_callB (cr_repr hr) (Call1.op repr_sem) rfl (T.m "repr" (by decide)) PyProof.Rows.boot_repr (dBs_cons (dB_E (de_callG c_satisfies hr (by decide) rfl (dA_slot (pv 13) (dA_push (de_callG c__law_pick hr (by decide) rfl (dA_slot (pv 1) (dA_push (dE_lst (dVs_cons (dV_nameV (pv 6)) (dVs_cons (dV_E (dE_callT call_list_of (Call1.op list_sem) rfl (T.m "list" (by decide)) PyProof.Rows.boot_list (dBs_cons (dB_name (pv 6)) dBs_nil) (by decide) (by decide))) dVs_nil))) dA_nil))) dA_nil)))) dBs_nil) (by decide) (by decide)) (dB_E (dE_callB (cr_repr hr) (Call1.op repr_sem) rfl (T.m "repr" (by decide)) PyProof.Rows.boot_repr (dBs_cons (dB_E (de_callG c__law_keeps hr (by decide) rfl (dA_slot (pv 8) (dA_slot (pv 6) dA_nil)))) dBs_nil) (by decide) (by decide))) (nomark _)) (dS_one (dS_ret (dE_V dV_bl))) dS_nil))) (by decide)))))))) (by decide))
    (dS_one (dS_ret (dE_V (dV_and (dV_E (de_cmpS op_isA is_sem (de_callG c_satisfies hr (by decide) rfl (dA_push (dE_V (dV_tup (dVs_cons dV_int (dVs_cons dV_int dVs_nil)))) (dA_push (dE_V (dV_tup dVs_nil)) dA_nil))) (dB_V dV_bl) (nomark _))) (dV_one (dV_E (de_cmpS op_isA is_sem (de_callG c_satisfies hr (by decide) rfl (dA_push (dE_lst (dVs_cons dV_int (dVs_cons dV_int dVs_nil))) (dA_push (dE_V (dV_tup (dVs_cons (dV_neg dV_int) dVs_nil))) dA_nil))) (dB_V dV_bl) (nomark _))))))))))))

/-! ### what the top has written -/
theorem all_mk {l : PySem.W.OpenLaw} {w : World} {K : PySem.W.Frag} {h : Heap} {mg : Str → Option Value} {fa : Addr} (X : K.In h) (G : h.Ns mainGlobals mg) (hfa : mg "law" = some (.ref fa))
    (truth : ∀ ns : List Int, ns.length ≤ 63 → ∃ fs, sem_law [.sh (.fz (ns.map D.int))] = .ok (.sh (.bl true)) fs)
    {C0 : Addr} (aC0 : PySem.W.nsIn K mainGlobals "Graph" = some (some (.ref C0))) (pg0 : PySem.W.plainGet K C0 Str.empty = true) (hd0 : PySem.W.hasDictIn K C0 = true) (po0 : PySem.W.plainOver K C0 = true) (sa0 : PySem.W.findIn K (.ref C0) "__setattr__" = some (some (.builtin "object.__setattr__"))) (na0_0 : PySem.W.findIn K (.ref C0) "leaves" = some none) (na0_1 : PySem.W.findIn K (.ref C0) "gates" = some none) (mk0 : PySem.W.makesIn K C0 = true) (kc0 : PySem.W.keepIn K (.ref C0) = true)
    {f0 : Addr} {od0 an0 : Option Addr} {sl0 : Array (Option Value)} {oc0 kV0 dc0 pm0 cd0 ct0 : Value} (a0 : PySem.W.nsIn K mainGlobals "_law_pen" = some (some (.ref f0))) (l0 : K.lookup f0 = some ⟨oc0, od0, .func (PySem.W.fnOf "_law_pen" "_law_pen" (defArgs s__law_pen) (defBody s__law_pen) (defScope s__law_pen) .none kV0 dc0 pm0 an0 cd0 ct0), sl0⟩) (c0 : PySem.W.codeIn K cd0 "_law_pen" = true) (k0 : PySem.W.keepIn K (.ref f0) = true)
    {f1 : Addr} {od1 an1 : Option Addr} {sl1 : Array (Option Value)} {oc1 kV1 dc1 pm1 cd1 ct1 : Value} (a1 : PySem.W.nsIn K mainGlobals "_law_draw" = some (some (.ref f1))) (l1 : K.lookup f1 = some ⟨oc1, od1, .func (PySem.W.fnOf "_law_draw" "_law_draw" (defArgs s__law_draw) (defBody s__law_draw) (defScope s__law_draw) .none kV1 dc1 pm1 an1 cd1 ct1), sl1⟩) (c1 : PySem.W.codeIn K cd1 "_law_draw" = true) (k1 : PySem.W.keepIn K (.ref f1) = true)
    {f2 : Addr} {od2 an2 : Option Addr} {sl2 : Array (Option Value)} {oc2 kV2 dc2 pm2 cd2 ct2 : Value} (a2 : PySem.W.nsIn K mainGlobals "_law_drawn_gates" = some (some (.ref f2))) (l2 : K.lookup f2 = some ⟨oc2, od2, .func (PySem.W.fnOf "_law_drawn_gates" "_law_drawn_gates" (defArgs s__law_drawn_gates) (defBody s__law_drawn_gates) (defScope s__law_drawn_gates) .none kV2 dc2 pm2 an2 cd2 ct2), sl2⟩) (c2 : PySem.W.codeIn K cd2 "_law_drawn_gates" = true) (k2 : PySem.W.keepIn K (.ref f2) = true)
    {f3 : Addr} {od3 an3 : Option Addr} {sl3 : Array (Option Value)} {oc3 kV3 dc3 pm3 cd3 ct3 : Value} (a3 : PySem.W.nsIn K mainGlobals "_law_flip" = some (some (.ref f3))) (l3 : K.lookup f3 = some ⟨oc3, od3, .func (PySem.W.fnOf "_law_flip" "_law_flip" (defArgs s__law_flip) (defBody s__law_flip) (defScope s__law_flip) .none kV3 dc3 pm3 an3 cd3 ct3), sl3⟩) (c3 : PySem.W.codeIn K cd3 "_law_flip" = true) (k3 : PySem.W.keepIn K (.ref f3) = true)
    {f4 : Addr} {od4 an4 : Option Addr} {sl4 : Array (Option Value)} {oc4 kV4 dc4 pm4 cd4 ct4 : Value} (a4 : PySem.W.nsIn K mainGlobals "_law_own_clause" = some (some (.ref f4))) (l4 : K.lookup f4 = some ⟨oc4, od4, .func (PySem.W.fnOf "_law_own_clause" "_law_own_clause" (defArgs s__law_own_clause) (defBody s__law_own_clause) (defScope s__law_own_clause) .none kV4 dc4 pm4 an4 cd4 ct4), sl4⟩) (c4 : PySem.W.codeIn K cd4 "_law_own_clause" = true) (k4 : PySem.W.keepIn K (.ref f4) = true)
    {f5 : Addr} {od5 an5 : Option Addr} {sl5 : Array (Option Value)} {oc5 kV5 dc5 pm5 cd5 ct5 : Value} (a5 : PySem.W.nsIn K mainGlobals "_law_own_clauses" = some (some (.ref f5))) (l5 : K.lookup f5 = some ⟨oc5, od5, .func (PySem.W.fnOf "_law_own_clauses" "_law_own_clauses" (defArgs s__law_own_clauses) (defBody s__law_own_clauses) (defScope s__law_own_clauses) .none kV5 dc5 pm5 an5 cd5 ct5), sl5⟩) (c5 : PySem.W.codeIn K cd5 "_law_own_clauses" = true) (k5 : PySem.W.keepIn K (.ref f5) = true)
    {f6 : Addr} {od6 an6 : Option Addr} {sl6 : Array (Option Value)} {oc6 kV6 dc6 pm6 cd6 ct6 : Value} (a6 : PySem.W.nsIn K mainGlobals "opposite" = some (some (.ref f6))) (l6 : K.lookup f6 = some ⟨oc6, od6, .func (PySem.W.fnOf "opposite" "opposite" (defArgs s_opposite) (defBody s_opposite) (defScope s_opposite) .none kV6 dc6 pm6 an6 cd6 ct6), sl6⟩) (c6 : PySem.W.codeIn K cd6 "opposite" = true) (k6 : PySem.W.keepIn K (.ref f6) = true)
    {f7 : Addr} {od7 an7 : Option Addr} {sl7 : Array (Option Value)} {oc7 kV7 dc7 pm7 cd7 ct7 : Value} (a7 : PySem.W.nsIn K mainGlobals "clause_of" = some (some (.ref f7))) (l7 : K.lookup f7 = some ⟨oc7, od7, .func (PySem.W.fnOf "clause_of" "clause_of" (defArgs s_clause_of) (defBody s_clause_of) (defScope s_clause_of) .none kV7 dc7 pm7 an7 cd7 ct7), sl7⟩) (c7 : PySem.W.codeIn K cd7 "clause_of" = true) (k7 : PySem.W.keepIn K (.ref f7) = true)
    {f8 : Addr} {od8 an8 : Option Addr} {sl8 : Array (Option Value)} {oc8 kV8 dc8 pm8 cd8 ct8 : Value} (a8 : PySem.W.nsIn K mainGlobals "clauses_of" = some (some (.ref f8))) (l8 : K.lookup f8 = some ⟨oc8, od8, .func (PySem.W.fnOf "clauses_of" "clauses_of" (defArgs s_clauses_of) (defBody s_clauses_of) (defScope s_clauses_of) .none kV8 dc8 pm8 an8 cd8 ct8), sl8⟩) (c8 : PySem.W.codeIn K cd8 "clauses_of" = true) (k8 : PySem.W.keepIn K (.ref f8) = true)
    {f9 : Addr} {od9 an9 : Option Addr} {sl9 : Array (Option Value)} {oc9 kV9 dc9 pm9 cd9 ct9 : Value} (a9 : PySem.W.nsIn K mainGlobals "is_count" = some (some (.ref f9))) (l9 : K.lookup f9 = some ⟨oc9, od9, .func (PySem.W.fnOf "is_count" "is_count" (defArgs s_is_count) (defBody s_is_count) (defScope s_is_count) .none kV9 dc9 pm9 an9 cd9 ct9), sl9⟩) (c9 : PySem.W.codeIn K cd9 "is_count" = true) (k9 : PySem.W.keepIn K (.ref f9) = true)
    {f10 : Addr} {od10 an10 : Option Addr} {sl10 : Array (Option Value)} {oc10 kV10 dc10 pm10 cd10 ct10 : Value} (a10 : PySem.W.nsIn K mainGlobals "is_literal" = some (some (.ref f10))) (l10 : K.lookup f10 = some ⟨oc10, od10, .func (PySem.W.fnOf "is_literal" "is_literal" (defArgs s_is_literal) (defBody s_is_literal) (defScope s_is_literal) .none kV10 dc10 pm10 an10 cd10 ct10), sl10⟩) (c10 : PySem.W.codeIn K cd10 "is_literal" = true) (k10 : PySem.W.keepIn K (.ref f10) = true)
    {f11 : Addr} {od11 an11 : Option Addr} {sl11 : Array (Option Value)} {oc11 kV11 dc11 pm11 cd11 ct11 : Value} (a11 : PySem.W.nsIn K mainGlobals "are_gates" = some (some (.ref f11))) (l11 : K.lookup f11 = some ⟨oc11, od11, .func (PySem.W.fnOf "are_gates" "are_gates" (defArgs s_are_gates) (defBody s_are_gates) (defScope s_are_gates) .none kV11 dc11 pm11 an11 cd11 ct11), sl11⟩) (c11 : PySem.W.codeIn K cd11 "are_gates" = true) (k11 : PySem.W.keepIn K (.ref f11) = true)
    {f12 : Addr} {od12 an12 : Option Addr} {sl12 : Array (Option Value)} {oc12 kV12 dc12 pm12 cd12 ct12 : Value} (a12 : PySem.W.findIn K (.ref C0) "__init__" = some (some (.ref f12))) (i12 : PySem.W.isFn K (.ref f12) = true) (l12 : K.lookup f12 = some ⟨oc12, od12, .func (PySem.W.fnOf "__init__" "Graph.__init__" (defArgs s_Graph___init__) (defBody s_Graph___init__) (defScope s_Graph___init__) .none kV12 dc12 pm12 an12 cd12 ct12), sl12⟩) (c12 : PySem.W.codeIn K cd12 "Graph.__init__" = true) (k12 : PySem.W.keepIn K (.ref f12) = true)
    {f13 : Addr} {od13 an13 : Option Addr} {sl13 : Array (Option Value)} {oc13 kV13 dc13 pm13 cd13 ct13 : Value} (a13 : PySem.W.nsIn K mainGlobals "_law_longer" = some (some (.ref f13))) (l13 : K.lookup f13 = some ⟨oc13, od13, .func (PySem.W.fnOf "_law_longer" "_law_longer" (defArgs s_x_law_longer) (defBody s_x_law_longer) (defScope s_x_law_longer) .none kV13 dc13 pm13 an13 cd13 ct13), sl13⟩) (c13 : PySem.W.codeIn K cd13 "_law_longer" = true) (k13 : PySem.W.keepIn K (.ref f13) = true)
    {f14 : Addr} {od14 an14 : Option Addr} {sl14 : Array (Option Value)} {oc14 kV14 dc14 pm14 cd14 ct14 : Value} (a14 : PySem.W.nsIn K mainGlobals "_law_rows" = some (some (.ref f14))) (l14 : K.lookup f14 = some ⟨oc14, od14, .func (PySem.W.fnOf "_law_rows" "_law_rows" (defArgs s_x_law_rows) (defBody s_x_law_rows) (defScope s_x_law_rows) .none kV14 dc14 pm14 an14 cd14 ct14), sl14⟩) (c14 : PySem.W.codeIn K cd14 "_law_rows" = true) (k14 : PySem.W.keepIn K (.ref f14) = true)
    {f15 : Addr} {od15 an15 : Option Addr} {sl15 : Array (Option Value)} {oc15 kV15 dc15 pm15 cd15 ct15 : Value} (a15 : PySem.W.nsIn K mainGlobals "satisfies" = some (some (.ref f15))) (l15 : K.lookup f15 = some ⟨oc15, od15, .func (PySem.W.fnOf "satisfies" "satisfies" (defArgs s_satisfies) (defBody s_satisfies) (defScope s_satisfies) .none kV15 dc15 pm15 an15 cd15 ct15), sl15⟩) (c15 : PySem.W.codeIn K cd15 "satisfies" = true) (k15 : PySem.W.keepIn K (.ref f15) = true)
    {f16 : Addr} {od16 an16 : Option Addr} {sl16 : Array (Option Value)} {oc16 kV16 dc16 pm16 cd16 ct16 : Value} (a16 : PySem.W.nsIn K mainGlobals "_law_keeps" = some (some (.ref f16))) (l16 : K.lookup f16 = some ⟨oc16, od16, .func (PySem.W.fnOf "_law_keeps" "_law_keeps" (defArgs s__law_keeps) (defBody s__law_keeps) (defScope s__law_keeps) .none kV16 dc16 pm16 an16 cd16 ct16), sl16⟩) (c16 : PySem.W.codeIn K cd16 "_law_keeps" = true) (k16 : PySem.W.keepIn K (.ref f16) = true)
    {f17 : Addr} {od17 an17 : Option Addr} {sl17 : Array (Option Value)} {oc17 kV17 dc17 pm17 cd17 ct17 : Value} (a17 : PySem.W.nsIn K mainGlobals "_law_bit" = some (some (.ref f17))) (l17 : K.lookup f17 = some ⟨oc17, od17, .func (PySem.W.fnOf "_law_bit" "_law_bit" (defArgs s__law_bit) (defBody s__law_bit) (defScope s__law_bit) .none kV17 dc17 pm17 an17 cd17 ct17), sl17⟩) (c17 : PySem.W.codeIn K cd17 "_law_bit" = true) (k17 : PySem.W.keepIn K (.ref f17) = true)
    {f18 : Addr} {od18 an18 : Option Addr} {sl18 : Array (Option Value)} {oc18 kV18 dc18 pm18 cd18 ct18 : Value} (a18 : PySem.W.nsIn K mainGlobals "_law_values" = some (some (.ref f18))) (l18 : K.lookup f18 = some ⟨oc18, od18, .func (PySem.W.fnOf "_law_values" "_law_values" (defArgs s__law_values) (defBody s__law_values) (defScope s__law_values) .none kV18 dc18 pm18 an18 cd18 ct18), sl18⟩) (c18 : PySem.W.codeIn K cd18 "_law_values" = true) (k18 : PySem.W.keepIn K (.ref f18) = true)
    {f19 : Addr} {od19 an19 : Option Addr} {sl19 : Array (Option Value)} {oc19 kV19 dc19 pm19 cd19 ct19 : Value} (a19 : PySem.W.nsIn K mainGlobals "_law_literals" = some (some (.ref f19))) (l19 : K.lookup f19 = some ⟨oc19, od19, .func (PySem.W.fnOf "_law_literals" "_law_literals" (defArgs s__law_literals) (defBody s__law_literals) (defScope s__law_literals) .none kV19 dc19 pm19 an19 cd19 ct19), sl19⟩) (c19 : PySem.W.codeIn K cd19 "_law_literals" = true) (k19 : PySem.W.keepIn K (.ref f19) = true)
    {f20 : Addr} {od20 an20 : Option Addr} {sl20 : Array (Option Value)} {oc20 kV20 dc20 pm20 cd20 ct20 : Value} (a20 : PySem.W.nsIn K mainGlobals "_law_pick" = some (some (.ref f20))) (l20 : K.lookup f20 = some ⟨oc20, od20, .func (PySem.W.fnOf "_law_pick" "_law_pick" (defArgs s__law_pick) (defBody s__law_pick) (defScope s__law_pick) .none kV20 dc20 pm20 an20 cd20 ct20), sl20⟩) (c20 : PySem.W.codeIn K cd20 "_law_pick" = true) (k20 : PySem.W.keepIn K (.ref f20) = true)
    {f21 : Addr} {od21 an21 : Option Addr} {sl21 : Array (Option Value)} {oc21 kV21 dc21 pm21 cd21 ct21 : Value} (a21 : PySem.W.nsIn K mainGlobals "law" = some (some (.ref f21))) (l21 : K.lookup f21 = some ⟨oc21, od21, .func (PySem.W.fnOf "law" "law" (defArgs s_law) (defBody s_law) (defScope s_law) .none kV21 dc21 pm21 an21 cd21 ct21), sl21⟩) (c21 : PySem.W.codeIn K cd21 "law" = true) (k21 : PySem.W.keepIn K (.ref f21) = true)
    (y0 : PySem.W.nsIn K mainGlobals "Line" = some none)
    (y1 : PySem.W.nsIn K mainGlobals "Scope" = some none)
    (y2 : PySem.W.nsIn K mainGlobals "Work" = some none)
    (y3 : PySem.W.nsIn K mainGlobals "Flat" = some none)
    (y4 : PySem.W.nsIn K mainGlobals "Builder" = some none)
    (y5 : PySem.W.nsIn K mainGlobals "Machine" = some none)
    (y6 : PySem.W.nsIn K mainGlobals "Unrolled" = some none)
    (y7 : PySem.W.nsIn K mainGlobals "Sight" = some none)
    (y8 : PySem.W.nsIn K mainGlobals "Found" = some none)
    (y9 : PySem.W.nsIn K mainGlobals "Barred" = some none)
    (y10 : PySem.W.nsIn K mainGlobals "Search" = some none)
    (y11 : PySem.W.nsIn K mainGlobals "Broken" = some none)
    (y12 : PySem.W.nsIn K mainGlobals "FirstBreak" = some none)
    (y13 : PySem.W.nsIn K mainGlobals "NoBreak" = some none)
    (y14 : PySem.W.nsIn K mainGlobals "KeptBySteps" = some none)
    (y15 : PySem.W.nsIn K mainGlobals "OpenSteps" = some none)
    (y16 : PySem.W.nsIn K mainGlobals "Way" = some none)
    (y17 : PySem.W.nsIn K mainGlobals "Shut" = some none)
    (y18 : PySem.W.nsIn K mainGlobals "Kept" = some none)
    (y19 : PySem.W.nsIn K mainGlobals "Frames" = some none)
    (y20 : PySem.W.nsIn K mainGlobals "Open" = some none)
    (y21 : PySem.W.nsIn K mainGlobals "Fallen" = some none)
    (y22 : PySem.W.nsIn K mainGlobals "Before" = some none)
    (y23 : PySem.W.nsIn K mainGlobals "Project" = some none)
    (z0 : PySem.W.nsIn K mainGlobals "abs" = some none)
    (z1 : PySem.W.nsIn K mainGlobals "all" = some none)
    (z2 : PySem.W.nsIn K mainGlobals "any" = some none)
    (z3 : PySem.W.nsIn K mainGlobals "bool" = some none)
    (z4 : PySem.W.nsIn K mainGlobals "dict" = some none)
    (z5 : PySem.W.nsIn K mainGlobals "enumerate" = some none)
    (z6 : PySem.W.nsIn K mainGlobals "int" = some none)
    (z7 : PySem.W.nsIn K mainGlobals "isinstance" = some none)
    (z8 : PySem.W.nsIn K mainGlobals "len" = some none)
    (z9 : PySem.W.nsIn K mainGlobals "list" = some none)
    (z10 : PySem.W.nsIn K mainGlobals "range" = some none)
    (z11 : PySem.W.nsIn K mainGlobals "repr" = some none)
    (z12 : PySem.W.nsIn K mainGlobals "sorted" = some none)
    (z13 : PySem.W.nsIn K mainGlobals "tuple" = some none) :
    ∃ fd : FuncData, (∀ (s : Shared) (v : Value), BindsTo s fd ⟨[v], []⟩ [("_law_script", v)]) ∧ ∀ base : Heap, K.In base → base.Ns mainGlobals mg → FnG l.prog w K mg base CX0 6 fa fd ["_law_script"] (DL.spLaw K) := by
  have e := hfa.symm.trans (PySem.W.mg_of X G a21)
  cases e
  have T : Txt mg := ⟨fun x hx => by
    simp only [List.mem_cons, List.not_mem_nil, or_false] at hx
    rcases hx with rfl | rfl | rfl | rfl | rfl | rfl | rfl | rfl | rfl | rfl | rfl | rfl | rfl | rfl
    · exact PySem.W.mg_none_of X G z0
    · exact PySem.W.mg_none_of X G z1
    · exact PySem.W.mg_none_of X G z2
    · exact PySem.W.mg_none_of X G z3
    · exact PySem.W.mg_none_of X G z4
    · exact PySem.W.mg_none_of X G z5
    · exact PySem.W.mg_none_of X G z6
    · exact PySem.W.mg_none_of X G z7
    · exact PySem.W.mg_none_of X G z8
    · exact PySem.W.mg_none_of X G z9
    · exact PySem.W.mg_none_of X G z10
    · exact PySem.W.mg_none_of X G z11
    · exact PySem.W.mg_none_of X G z12
    · exact PySem.W.mg_none_of X G z13⟩
  have m0 := PySem.W.mg_of X G aC0
  have cl0 : Cls K C0 := ⟨pg0, hd0, po0, sa0⟩
  have TF : FieldsOk ⟨K, mg⟩ tbl := fields_mkA fun p hp => by
    simp only [tblRows, tblR0, tblR1, tblR2, tblR3, tblR4, tblR5, List.mem_append, List.mem_cons, List.not_mem_nil, or_false, or_assoc] at hp
    rcases hp with rfl | rfl | rfl | rfl | rfl | rfl | rfl | rfl | rfl | rfl | rfl | rfl | rfl | rfl | rfl | rfl | rfl | rfl | rfl | rfl | rfl | rfl | rfl | rfl | rfl | rfl | rfl | rfl | rfl | rfl | rfl | rfl | rfl | rfl | rfl | rfl | rfl | rfl | rfl | rfl | rfl | rfl | rfl | rfl | rfl | rfl | rfl | rfl | rfl | rfl | rfl | rfl | rfl | rfl | rfl | rfl | rfl | rfl | rfl | rfl | rfl | rfl | rfl | rfl | rfl | rfl
    · exact .inr (PySem.W.mg_none_of X G y0)
    · exact .inr (PySem.W.mg_none_of X G y0)
    · exact .inr (PySem.W.mg_none_of X G y0)
    · exact .inr (PySem.W.mg_none_of X G y1)
    · exact .inr (PySem.W.mg_none_of X G y1)
    · exact .inr (PySem.W.mg_none_of X G y1)
    · exact .inr (PySem.W.mg_none_of X G y2)
    · exact .inr (PySem.W.mg_none_of X G y2)
    · exact .inr (PySem.W.mg_none_of X G y2)
    · exact .inr (PySem.W.mg_none_of X G y2)
    · exact .inr (PySem.W.mg_none_of X G y2)
    · exact .inr (PySem.W.mg_none_of X G y2)
    · exact .inr (PySem.W.mg_none_of X G y3)
    · exact .inr (PySem.W.mg_none_of X G y3)
    · exact .inl ⟨C0, m0, cl0, na0_0⟩
    · exact .inl ⟨C0, m0, cl0, na0_1⟩
    · exact .inr (PySem.W.mg_none_of X G y4)
    · exact .inr (PySem.W.mg_none_of X G y4)
    · exact .inr (PySem.W.mg_none_of X G y4)
    · exact .inr (PySem.W.mg_none_of X G y5)
    · exact .inr (PySem.W.mg_none_of X G y5)
    · exact .inr (PySem.W.mg_none_of X G y5)
    · exact .inr (PySem.W.mg_none_of X G y5)
    · exact .inr (PySem.W.mg_none_of X G y5)
    · exact .inr (PySem.W.mg_none_of X G y6)
    · exact .inr (PySem.W.mg_none_of X G y6)
    · exact .inr (PySem.W.mg_none_of X G y6)
    · exact .inr (PySem.W.mg_none_of X G y7)
    · exact .inr (PySem.W.mg_none_of X G y7)
    · exact .inr (PySem.W.mg_none_of X G y7)
    · exact .inr (PySem.W.mg_none_of X G y7)
    · exact .inr (PySem.W.mg_none_of X G y7)
    · exact .inr (PySem.W.mg_none_of X G y8)
    · exact .inr (PySem.W.mg_none_of X G y9)
    · exact .inr (PySem.W.mg_none_of X G y10)
    · exact .inr (PySem.W.mg_none_of X G y10)
    · exact .inr (PySem.W.mg_none_of X G y10)
    · exact .inr (PySem.W.mg_none_of X G y10)
    · exact .inr (PySem.W.mg_none_of X G y10)
    · exact .inr (PySem.W.mg_none_of X G y11)
    · exact .inr (PySem.W.mg_none_of X G y12)
    · exact .inr (PySem.W.mg_none_of X G y12)
    · exact .inr (PySem.W.mg_none_of X G y13)
    · exact .inr (PySem.W.mg_none_of X G y14)
    · exact .inr (PySem.W.mg_none_of X G y14)
    · exact .inr (PySem.W.mg_none_of X G y15)
    · exact .inr (PySem.W.mg_none_of X G y15)
    · exact .inr (PySem.W.mg_none_of X G y16)
    · exact .inr (PySem.W.mg_none_of X G y16)
    · exact .inr (PySem.W.mg_none_of X G y17)
    · exact .inr (PySem.W.mg_none_of X G y18)
    · exact .inr (PySem.W.mg_none_of X G y18)
    · exact .inr (PySem.W.mg_none_of X G y19)
    · exact .inr (PySem.W.mg_none_of X G y19)
    · exact .inr (PySem.W.mg_none_of X G y19)
    · exact .inr (PySem.W.mg_none_of X G y20)
    · exact .inr (PySem.W.mg_none_of X G y20)
    · exact .inr (PySem.W.mg_none_of X G y21)
    · exact .inr (PySem.W.mg_none_of X G y22)
    · exact .inr (PySem.W.mg_none_of X G y22)
    · exact .inr (PySem.W.mg_none_of X G y22)
    · exact .inr (PySem.W.mg_none_of X G y22)
    · exact .inr (PySem.W.mg_none_of X G y23)
    · exact .inr (PySem.W.mg_none_of X G y23)
    · exact .inr (PySem.W.mg_none_of X G y23)
    · exact .inr (PySem.W.mg_none_of X G y23)
  have F0 := fun_mk (st := s__law_pen) l0 c0 k0
  have F1 := fun_mk (st := s__law_draw) l1 c1 k1
  have F2 := fun_mk (st := s__law_drawn_gates) l2 c2 k2
  have F3 := fun_mk (st := s__law_flip) l3 c3 k3
  have F4 := fun_mk (st := s__law_own_clause) l4 c4 k4
  have F5 := fun_mk (st := s__law_own_clauses) l5 c5 k5
  have F6 := fun_mk (st := s_opposite) l6 c6 k6
  have F7 := fun_mk (st := s_clause_of) l7 c7 k7
  have F8 := fun_mk (st := s_clauses_of) l8 c8 k8
  have F9 := fun_mk (st := s_is_count) l9 c9 k9
  have F10 := fun_mk (st := s_is_literal) l10 c10 k10
  have F11 := fun_mk (st := s_are_gates) l11 c11 k11
  have F12 := fun_mk (st := s_Graph___init__) l12 c12 k12
  have F13 := fun_mk (st := s_x_law_longer) l13 c13 k13
  have F14 := fun_mk (st := s_x_law_rows) l14 c14 k14
  have F15 := fun_mk (st := s_satisfies) l15 c15 k15
  have F16 := fun_mk (st := s__law_keeps) l16 c16 k16
  have F17 := fun_mk (st := s__law_bit) l17 c17 k17
  have F18 := fun_mk (st := s__law_values) l18 c18 k18
  have F19 := fun_mk (st := s__law_literals) l19 c19 k19
  have F20 := fun_mk (st := s__law_pick) l20 c20 k20
  have F21 := fun_mk (st := s_law) l21 c21 k21
  refine ⟨PySem.W.fnOf "law" "law" (defArgs s_law) (defBody s_law) (defScope s_law) .none kV21 dc21 pm21 an21 cd21 ct21, fun s v => .of_eq rfl, fun base _ _ => ?_⟩
  have C_0 := ok__law_pen (P := l.prog) (w := w) (base := base) T TF F0 (PySem.W.mg_of X G a0)
  have C_1 := ok__law_draw (P := l.prog) (w := w) (base := base) T TF F1 (PySem.W.mg_of X G a1)
  have C_2 := ok__law_drawn_gates (P := l.prog) (w := w) (base := base) T TF C_1 F2 (PySem.W.mg_of X G a2)
  have C_3 := ok__law_flip (P := l.prog) (w := w) (base := base) T TF F3 (PySem.W.mg_of X G a3)
  have C_4 := ok__law_own_clause (P := l.prog) (w := w) (base := base) T TF C_3 F4 (PySem.W.mg_of X G a4)
  have C_5 := ok__law_own_clauses (P := l.prog) (w := w) (base := base) T TF C_3 C_4 F5 (PySem.W.mg_of X G a5)
  have C_6 := ok_opposite (P := l.prog) (w := w) (base := base) T TF F6 (PySem.W.mg_of X G a6)
  have C_7 := ok_clause_of (P := l.prog) (w := w) (base := base) T TF C_6 F7 (PySem.W.mg_of X G a7)
  have C_8 := ok_clauses_of (P := l.prog) (w := w) (base := base) T TF C_6 C_7 F8 (PySem.W.mg_of X G a8)
  have C_9 := ok_is_count (P := l.prog) (w := w) (base := base) T TF F9 (PySem.W.mg_of X G a9)
  have C_10 := ok_is_literal (P := l.prog) (w := w) (base := base) T TF C_9 F10 (PySem.W.mg_of X G a10)
  have C_11 := ok_are_gates (P := l.prog) (w := w) (base := base) T TF C_10 F11 (PySem.W.mg_of X G a11)
  have C_12 : MakG l.prog w K mg base 4 "Graph" ["self", "leaves", "gates"] sem_Graph___init__ := ⟨C0, f12, _, ⟨mk0, a12, i12, kc0⟩, ok_Graph___init__ T TF C_9 C_11 F12, m0, F12.binds fun _ _ _ _ _ _ us hl => match us, hl with | [_, _, _], _ => rfl⟩
  have C_13 := ok_x_law_longer (P := l.prog) (w := w) (base := base) T TF F13 (PySem.W.mg_of X G a13)
  have C_14 := ok_x_law_rows (P := l.prog) (w := w) (base := base) T TF C_13 F14 (PySem.W.mg_of X G a14)
  have C_15 := ok_satisfies (P := l.prog) (w := w) (base := base) T TF F15 (PySem.W.mg_of X G a15)
  have C_16 := ok__law_keeps (P := l.prog) (w := w) (base := base) T TF F16 (PySem.W.mg_of X G a16)
  have C_17 := ok__law_bit (P := l.prog) (w := w) (base := base) T TF F17 (PySem.W.mg_of X G a17)
  have C_18 := ok__law_values (P := l.prog) (w := w) (base := base) T TF C_17 F18 (PySem.W.mg_of X G a18)
  have C_19 := ok__law_literals (P := l.prog) (w := w) (base := base) T TF C_1 F19 (PySem.W.mg_of X G a19)
  have C_20 := ok__law_pick (P := l.prog) (w := w) (base := base) T TF C_1 F20 (PySem.W.mg_of X G a20)
  exact fn_lawG (ok_law T TF C_0 C_1 C_2 C_5 C_8 C_12 C_14 C_15 C_16 C_18 C_19 C_4 C_7 C_20 F21) truth
end K20

end

section
set_option Elab.async false
set_option linter.all false
set_option maxRecDepth 100000
namespace K20
open PySem L2 RZ DL PyProof.Rows
section
variable {Q : O → DL.Env → Prop} {X : D → DL.Env → Prop} {ρ : DL.Env}
/-! ### what is told of clauses -/
theorem clL_ok {r : List Nat} {cs : List Int} {n : Nat} (h : clL r = some cs) (hr : ∀ l ∈ r, l / 2 ≤ n) : ClOk n cs ∧ cs.length ≤ r.length := by
  unfold clL at h
  split at h
  · cases h
  · rename_i hc
    have hc : conB r = false := by simpa using hc
    cases h
    constructor
    · intro c hcm
      obtain ⟨i, hi, rfl⟩ := List.mem_map.mp hcm
      obtain ⟨l, ⟨hl, h1⟩, rfl⟩ := ndL_mem.mp ((sortI_perm _).mem_iff.mp hi)
      have := hr l hl
      rw [sgn_lit hc hl]
      unfold litI
      split <;> omega
    · rw [List.length_map, sortI_len]
      have h2 := ddL_le (ls := r)
      have := List.length_filter_le (fun l => decide (1 < l)) (ddL r)
      unfold ndL
      rw [List.length_map]
      omega
theorem clsL_ok {leaves : Nat} {gs : List (Nat × Nat)} (hg : GOk leaves gs) : ∀ cs ∈ clsL leaves gs, ClOk (leaves + gs.length) cs ∧ cs.length ≤ 3 := by
  induction gs using snoc_ind with
  | h0 => intro cs h; simp [clsL, clsF] at h
  | h1 gs g ih =>
    intro cs h
    rw [clsL_snoc] at h
    have hk := hg gs g [] rfl
    rw [List.length_append, List.length_cons, List.length_nil]
    rcases List.mem_append.mp h with h | h
    · obtain ⟨h1, h2⟩ := ih hg.pre cs h
      exact ⟨fun c hc => ⟨(h1 c hc).1, by have := (h1 c hc).2; omega⟩, h2⟩
    · obtain ⟨r, hr, e⟩ := List.mem_filterMap.mp h
      obtain ⟨r1, r2⟩ := rowsG_ok hk.1 hk.2 hr
      obtain ⟨h1, h2⟩ := clL_ok (n := leaves + (gs.length + 1)) e fun l hl => by have := r2 l hl; omega
      exact ⟨h1, by omega⟩
theorem rb_cls {cs : List Int} {n k : Nat} (h : ClOk n cs) (hn : n ≤ 1000) (hk : cs.length ≤ k) : RB 1 (k * 13 + 2) (cD cs) :=
  RB.tup (by rw [List.length_map]; exact hk) fun x hx => by
    obtain ⟨c, hc, rfl⟩ := List.mem_map.mp hx
    have := h c hc
    exact RB.int (by omega)
/-! ### the ways of a row of leaves -/
def keyL (b : List Nat) : List Key := b.map keyN
theorem keysD_nat : ∀ (b : List Nat), keysD (b.map natD) = some (keyL b)
  | [] => rfl
  | n :: b => by
    have e : keyD (natD n) = some (keyN n) := rfl
    simp only [List.map_cons, keysD, e, keysD_nat b]
    rfl
theorem keyL_inj : ∀ {a b : List Nat}, keyL a = keyL b → a = b
  | [], [], _ => rfl
  | [], _ :: _, h => by cases h
  | _ :: _, [], h => by cases h
  | x :: a, y :: b, h => by
    have h : keyN x :: keyL a = keyN y :: keyL b := h
    obtain ⟨h1, h2⟩ := List.cons.inj h
    rw [keyN_inj h1, keyL_inj h2]
structure WaysOk (leaves : Nat) (gs : List (Nat × Nat)) (pre : List (List Nat)) (ks : List (List Key)) (vs : List D) : Prop where
  len : ks.length = vs.length
  le : ks.length ≤ pre.length
  at_ : ∀ b : List Nat, b.length = leaves → lookK ks vs (keyL b) = if oneR gs b ∈ pre then some (.lst [bitsD (oneR gs b)]) else none
theorem get_dt {ks : List (List Key)} {vs : List D} {b : List Nat} : dgetO (.fd (.ct (.dt ks vs))) (bitsD b) = some (lookK ks vs (keyL b)) := by
  unfold dgetO bitsD
  simp only [keysD_nat]
theorem put_dt {ks : List (List Key)} {vs : List D} {b : List Nat} {d : D} : putO (.fd (.ct (.dt ks vs))) (bitsD b) d = if ks.length < lim then some (.fd (.ct (.dt (putKs ks (keyL b)) (putVs ks vs (keyL b) d)))) else none := by
  unfold putO bitsD
  simp only [keysD_nat]
theorem WaysOk.put {leaves : Nat} {gs : List (Nat × Nat)} {pre : List (List Nat)} {ks : List (List Key)} {vs : List D} {x : List Nat} (h : WaysOk leaves gs pre ks vs) (hx : x ∉ pre) (hl : leaves ≤ x.length) (hs : x = oneR gs (x.take leaves)) :
    WaysOk leaves gs (pre ++ [x]) (putKs ks (keyL (x.take leaves))) (putVs ks vs (keyL (x.take leaves)) (.lst [bitsD x])) where
  len := putVs_len h.len
  le := by have := putKs_le (ks := ks) (k := keyL (x.take leaves)); have := h.le; rw [List.length_append]; simp only [List.length_cons, List.length_nil]; omega
  at_ := fun b hb => by
    rw [lookK_put h.len, h.at_ b hb]
    by_cases e : keyL (x.take leaves) = keyL b
    · have e := keyL_inj e
      rw [if_pos (by rw [e])]
      rw [e] at hs
      rw [← hs, if_pos (by simp)]
    · rw [if_neg e]
      have e2 : oneR gs b ≠ x := by
        rintro rfl
        apply e
        rw [← hb, oneR_take]
      have : oneR gs b ∈ pre ++ [x] ↔ oneR gs b ∈ pre := by simp [e2]
      simp only [this]
theorem WaysOk.skip {leaves : Nat} {gs : List (Nat × Nat)} {pre : List (List Nat)} {ks : List (List Key)} {vs : List D} {x : List Nat} (h : WaysOk leaves gs pre ks vs) (hs : ¬ x = oneR gs (x.take leaves)) : WaysOk leaves gs (pre ++ [x]) ks vs where
  len := h.len
  le := by have := h.le; rw [List.length_append]; omega
  at_ := fun b hb => by
    have e2 : oneR gs b ≠ x := by
      rintro rfl
      apply hs
      rw [← hb, oneR_take]
    have : oneR gs b ∈ pre ++ [x] ↔ oneR gs b ∈ pre := by simp [e2]
    rw [h.at_ b hb]
    simp only [this]
theorem WaysOk.none {leaves : Nat} {gs : List (Nat × Nat)} {pre : List (List Nat)} {ks : List (List Key)} {vs : List D} {x : List Nat} (h : WaysOk leaves gs pre ks vs) (hx : x ∉ pre) (hl : leaves ≤ x.length) (hs : x = oneR gs (x.take leaves)) : lookK ks vs (keyL (x.take leaves)) = .none := by
  rw [h.at_ _ (by rw [List.length_take, Nat.min_eq_left hl]), ← hs, if_neg hx]
end
end K20

end

section
set_option Elab.async false
set_option linter.all false
set_option maxRecDepth 100000
namespace K20
open PySem L2 RZ DL PyProof.Rows
theorem law_w {ns : List Int} (hl : ns.length ≤ 63) : wM (sem_law [.sh (.fz (ns.map D.int))]) (fun r _ => r = .sh (.bl true)) nX := by
  refine sem_w [some (.sh (.fz (ns.map D.int))), none, none, none, none, none, none, none, none, none, none, none, none, none, none, none] rfl rfl ?_
  unfold d_law
  simp only [wO_some, wO_none, wO_ite, wM_ok, wM_bad, wM_pure, wM_bind, wM_map, wM_iteB, wM_iteM, wM_nameB, wM_nameS, wM_nameV, wM_nameM, wM_asSh, wM_cons, wM_consO, wM_consT, wM_consB, wM_tup, wM_lst, wM_opS, wM_opN, wM_bl, wM_andT, wM_orT, wM_if, wM_andV, wM_orV, wM_tru, wM_neg, wM_part, wM_slice, wM_call, wM_isi, wM_op1, wM_bO, wM_chain, wM_sub, wM_subN, wM_has, wM_callF, wM_make, wM_newK, wM_newT, wM_get1, wM_get2, wM_field, wM_seq, wM_rngA1, wM_rngA2, wM_enumL, wM_enumT, wM_zipL, wM_zipT, wS_seq, wS_next, wS_brk, wS_cont, wS_bad, wS_if, wS_ret, wS_retN, wS_expr, wS_asg, wS_tg, wS_par, wS_app, wS_put, wS_fldX, wO_bName0, wO_bNameS, wO_bTup, wO_bNil, wO_bCons, wO_fillN, wO_fillS, wO_fillP, putBack_some, putBack_none, putBack_nil, slotSh_s, slotSh_sh, slotSh_ct, slotSh_rc, wipe_nil, wipe_cons, back_nil, back_cons, rest_s, rest_n, rest_sh, rest_ct, rest_rc, add_ii, sub_ii, cmp_ii, eq_ii, ne_ii, is_nn, is_tn, is_ln, is_in, is_bn, is_bb, isn_nn, isn_tn, isn_ln, isn_in, len_l, len_t, int_i, int_b, abs_i, tup_l, tup_t, list_l, list_t, f1_ap, f2_ap, tru_b, tru_t, tru_l, tru_n, item_lstS, item_lstO, item_tupS, wO_map, wO_bind, isi_int_i, isi_int_b, isi_int_n, isi_int_t, isi_int_l, isi_int_s, isi_bool_i, isi_bool_b, isi_bool_n, isi_tl_t, isi_tl_l, isi_tl_i, isi_tl_n, isi_t_t, isi_t_l, isi_l_t, isi_l_l, slice_l, slice_t, shO_sh, blO_bl, blD_bl, intO_i, seq_l, seq_t, seq_f, ownL_l, two_ap, isSh_s, made_ok, toD_sh, toD_lst, mod_ii, mul_ii, div_ii, add_ll, add_tt, List.getElem?_cons_zero, List.getElem?_cons_succ, List.set_cons_zero, List.set_cons_succ, Option.join_some, Option.join_none, List.map_cons, List.map_nil, if_true, if_false, Bool.false_eq_true, reduceIte, Bool.true_or, Bool.or_true, Bool.false_or, Bool.true_and, Bool.and_true, Bool.false_and, Bool.and_false, true_and, and_true, Bool.not_true, Bool.not_false, decide_eq_true_eq, len0, len1, len2, len3, len4, len5, len6, abs2, pos2, wM_disp, wM_consP, isDk_dk, isDk_dt, toD_ct, Ct.toD]
  refine penB_w hl fun p fs hp => ?_
  refine wS_forR 0 2 (fun k ρ => ∃ p a b c d e f g h, ρ = [some (.sh (.fz (ns.map D.int))), some p, a, b, c, d, e, f, g, h, none, none, none, none, none, none] ∧ PenB (14 * k) p) ?_ ?_ ?_
  · simp only [wO_some, wO_none, wO_ite, wM_ok, wM_bad, wM_pure, wM_bind, wM_map, wM_iteB, wM_iteM, wM_nameB, wM_nameS, wM_nameV, wM_nameM, wM_asSh, wM_cons, wM_consO, wM_consT, wM_consB, wM_tup, wM_lst, wM_opS, wM_opN, wM_bl, wM_andT, wM_orT, wM_if, wM_andV, wM_orV, wM_tru, wM_neg, wM_part, wM_slice, wM_call, wM_isi, wM_op1, wM_bO, wM_chain, wM_sub, wM_subN, wM_has, wM_callF, wM_make, wM_newK, wM_newT, wM_get1, wM_get2, wM_field, wM_seq, wM_rngA1, wM_rngA2, wM_enumL, wM_enumT, wM_zipL, wM_zipT, wS_seq, wS_next, wS_brk, wS_cont, wS_bad, wS_if, wS_ret, wS_retN, wS_expr, wS_asg, wS_tg, wS_par, wS_app, wS_put, wS_fldX, wO_bName0, wO_bNameS, wO_bTup, wO_bNil, wO_bCons, wO_fillN, wO_fillS, wO_fillP, putBack_some, putBack_none, putBack_nil, slotSh_s, slotSh_sh, slotSh_ct, slotSh_rc, wipe_nil, wipe_cons, back_nil, back_cons, rest_s, rest_n, rest_sh, rest_ct, rest_rc, add_ii, sub_ii, cmp_ii, eq_ii, ne_ii, is_nn, is_tn, is_ln, is_in, is_bn, is_bb, isn_nn, isn_tn, isn_ln, isn_in, len_l, len_t, int_i, int_b, abs_i, tup_l, tup_t, list_l, list_t, f1_ap, f2_ap, tru_b, tru_t, tru_l, tru_n, item_lstS, item_lstO, item_tupS, wO_map, wO_bind, isi_int_i, isi_int_b, isi_int_n, isi_int_t, isi_int_l, isi_int_s, isi_bool_i, isi_bool_b, isi_bool_n, isi_tl_t, isi_tl_l, isi_tl_i, isi_tl_n, isi_t_t, isi_t_l, isi_l_t, isi_l_l, slice_l, slice_t, shO_sh, blO_bl, blD_bl, intO_i, seq_l, seq_t, seq_f, ownL_l, two_ap, isSh_s, made_ok, toD_sh, toD_lst, mod_ii, mul_ii, div_ii, add_ll, add_tt, List.getElem?_cons_zero, List.getElem?_cons_succ, List.set_cons_zero, List.set_cons_succ, Option.join_some, Option.join_none, List.map_cons, List.map_nil, if_true, if_false, Bool.false_eq_true, reduceIte, Bool.true_or, Bool.or_true, Bool.false_or, Bool.true_and, Bool.and_true, Bool.false_and, Bool.and_false, true_and, and_true, Bool.not_true, Bool.not_false, decide_eq_true_eq, len0, len1, len2, len3, len4, len5, len6, abs2, pos2, wM_disp, wM_consP, isDk_dk, isDk_dt, toD_ct, Ct.toD]
    exact ⟨inR_nat (n := 2) (by omega), rfl, p, none, none, none, none, none, none, none, none, rfl, hp⟩
  · rintro k _ hk ⟨p, a, b, c, d, e, f, g, h, rfl, hp⟩
    simp only [wO_some, wO_none, wO_ite, wM_ok, wM_bad, wM_pure, wM_bind, wM_map, wM_iteB, wM_iteM, wM_nameB, wM_nameS, wM_nameV, wM_nameM, wM_asSh, wM_cons, wM_consO, wM_consT, wM_consB, wM_tup, wM_lst, wM_opS, wM_opN, wM_bl, wM_andT, wM_orT, wM_if, wM_andV, wM_orV, wM_tru, wM_neg, wM_part, wM_slice, wM_call, wM_isi, wM_op1, wM_bO, wM_chain, wM_sub, wM_subN, wM_has, wM_callF, wM_make, wM_newK, wM_newT, wM_get1, wM_get2, wM_field, wM_seq, wM_rngA1, wM_rngA2, wM_enumL, wM_enumT, wM_zipL, wM_zipT, wS_seq, wS_next, wS_brk, wS_cont, wS_bad, wS_if, wS_ret, wS_retN, wS_expr, wS_asg, wS_tg, wS_par, wS_app, wS_put, wS_fldX, wO_bName0, wO_bNameS, wO_bTup, wO_bNil, wO_bCons, wO_fillN, wO_fillS, wO_fillP, putBack_some, putBack_none, putBack_nil, slotSh_s, slotSh_sh, slotSh_ct, slotSh_rc, wipe_nil, wipe_cons, back_nil, back_cons, rest_s, rest_n, rest_sh, rest_ct, rest_rc, add_ii, sub_ii, cmp_ii, eq_ii, ne_ii, is_nn, is_tn, is_ln, is_in, is_bn, is_bb, isn_nn, isn_tn, isn_ln, isn_in, len_l, len_t, int_i, int_b, abs_i, tup_l, tup_t, list_l, list_t, f1_ap, f2_ap, tru_b, tru_t, tru_l, tru_n, item_lstS, item_lstO, item_tupS, wO_map, wO_bind, isi_int_i, isi_int_b, isi_int_n, isi_int_t, isi_int_l, isi_int_s, isi_bool_i, isi_bool_b, isi_bool_n, isi_tl_t, isi_tl_l, isi_tl_i, isi_tl_n, isi_t_t, isi_t_l, isi_l_t, isi_l_l, slice_l, slice_t, shO_sh, blO_bl, blD_bl, intO_i, seq_l, seq_t, seq_f, ownL_l, two_ap, isSh_s, made_ok, toD_sh, toD_lst, mod_ii, mul_ii, div_ii, add_ll, add_tt, List.getElem?_cons_zero, List.getElem?_cons_succ, List.set_cons_zero, List.set_cons_succ, Option.join_some, Option.join_none, List.map_cons, List.map_nil, if_true, if_false, Bool.false_eq_true, reduceIte, Bool.true_or, Bool.or_true, Bool.false_or, Bool.true_and, Bool.and_true, Bool.false_and, Bool.and_false, true_and, and_true, Bool.not_true, Bool.not_false, decide_eq_true_eq, len0, len1, len2, len3, len4, len5, len6, abs2, pos2, wM_disp, wM_consP, isDk_dk, isDk_dt, toD_ct, Ct.toD]
    refine drawB_w (many := 5) hp (by omega) (by omega) (by omega) fun lv p1 hlv hp1 => ?_
    simp only [natD, wO_some, wO_none, wO_ite, wM_ok, wM_bad, wM_pure, wM_bind, wM_map, wM_iteB, wM_iteM, wM_nameB, wM_nameS, wM_nameV, wM_nameM, wM_asSh, wM_cons, wM_consO, wM_consT, wM_consB, wM_tup, wM_lst, wM_opS, wM_opN, wM_bl, wM_andT, wM_orT, wM_if, wM_andV, wM_orV, wM_tru, wM_neg, wM_part, wM_slice, wM_call, wM_isi, wM_op1, wM_bO, wM_chain, wM_sub, wM_subN, wM_has, wM_callF, wM_make, wM_newK, wM_newT, wM_get1, wM_get2, wM_field, wM_seq, wM_rngA1, wM_rngA2, wM_enumL, wM_enumT, wM_zipL, wM_zipT, wS_seq, wS_next, wS_brk, wS_cont, wS_bad, wS_if, wS_ret, wS_retN, wS_expr, wS_asg, wS_tg, wS_par, wS_app, wS_put, wS_fldX, wO_bName0, wO_bNameS, wO_bTup, wO_bNil, wO_bCons, wO_fillN, wO_fillS, wO_fillP, putBack_some, putBack_none, putBack_nil, slotSh_s, slotSh_sh, slotSh_ct, slotSh_rc, wipe_nil, wipe_cons, back_nil, back_cons, rest_s, rest_n, rest_sh, rest_ct, rest_rc, add_ii, sub_ii, cmp_ii, eq_ii, ne_ii, is_nn, is_tn, is_ln, is_in, is_bn, is_bb, isn_nn, isn_tn, isn_ln, isn_in, len_l, len_t, int_i, int_b, abs_i, tup_l, tup_t, list_l, list_t, f1_ap, f2_ap, tru_b, tru_t, tru_l, tru_n, item_lstS, item_lstO, item_tupS, wO_map, wO_bind, isi_int_i, isi_int_b, isi_int_n, isi_int_t, isi_int_l, isi_int_s, isi_bool_i, isi_bool_b, isi_bool_n, isi_tl_t, isi_tl_l, isi_tl_i, isi_tl_n, isi_t_t, isi_t_l, isi_l_t, isi_l_l, slice_l, slice_t, shO_sh, blO_bl, blD_bl, intO_i, seq_l, seq_t, seq_f, ownL_l, two_ap, isSh_s, made_ok, toD_sh, toD_lst, mod_ii, mul_ii, div_ii, add_ll, add_tt, List.getElem?_cons_zero, List.getElem?_cons_succ, List.set_cons_zero, List.set_cons_succ, Option.join_some, Option.join_none, List.map_cons, List.map_nil, if_true, if_false, Bool.false_eq_true, reduceIte, Bool.true_or, Bool.or_true, Bool.false_or, Bool.true_and, Bool.and_true, Bool.false_and, Bool.and_false, true_and, and_true, Bool.not_true, Bool.not_false, decide_eq_true_eq, len0, len1, len2, len3, len4, len5, len6, abs2, pos2, wM_disp, wM_consP, isDk_dk, isDk_dt, toD_ct, Ct.toD, hp.sl]
    refine drawB_w (many := 7) hp1 (by omega) (by omega) (by omega) fun gn p2 hgn hp2 => ?_
    simp only [natD, wO_some, wO_none, wO_ite, wM_ok, wM_bad, wM_pure, wM_bind, wM_map, wM_iteB, wM_iteM, wM_nameB, wM_nameS, wM_nameV, wM_nameM, wM_asSh, wM_cons, wM_consO, wM_consT, wM_consB, wM_tup, wM_lst, wM_opS, wM_opN, wM_bl, wM_andT, wM_orT, wM_if, wM_andV, wM_orV, wM_tru, wM_neg, wM_part, wM_slice, wM_call, wM_isi, wM_op1, wM_bO, wM_chain, wM_sub, wM_subN, wM_has, wM_callF, wM_make, wM_newK, wM_newT, wM_get1, wM_get2, wM_field, wM_seq, wM_rngA1, wM_rngA2, wM_enumL, wM_enumT, wM_zipL, wM_zipT, wS_seq, wS_next, wS_brk, wS_cont, wS_bad, wS_if, wS_ret, wS_retN, wS_expr, wS_asg, wS_tg, wS_par, wS_app, wS_put, wS_fldX, wO_bName0, wO_bNameS, wO_bTup, wO_bNil, wO_bCons, wO_fillN, wO_fillS, wO_fillP, putBack_some, putBack_none, putBack_nil, slotSh_s, slotSh_sh, slotSh_ct, slotSh_rc, wipe_nil, wipe_cons, back_nil, back_cons, rest_s, rest_n, rest_sh, rest_ct, rest_rc, add_ii, sub_ii, cmp_ii, eq_ii, ne_ii, is_nn, is_tn, is_ln, is_in, is_bn, is_bb, isn_nn, isn_tn, isn_ln, isn_in, len_l, len_t, int_i, int_b, abs_i, tup_l, tup_t, list_l, list_t, f1_ap, f2_ap, tru_b, tru_t, tru_l, tru_n, item_lstS, item_lstO, item_tupS, wO_map, wO_bind, isi_int_i, isi_int_b, isi_int_n, isi_int_t, isi_int_l, isi_int_s, isi_bool_i, isi_bool_b, isi_bool_n, isi_tl_t, isi_tl_l, isi_tl_i, isi_tl_n, isi_t_t, isi_t_l, isi_l_t, isi_l_l, slice_l, slice_t, shO_sh, blO_bl, blD_bl, intO_i, seq_l, seq_t, seq_f, ownL_l, two_ap, isSh_s, made_ok, toD_sh, toD_lst, mod_ii, mul_ii, div_ii, add_ll, add_tt, List.getElem?_cons_zero, List.getElem?_cons_succ, List.set_cons_zero, List.set_cons_succ, Option.join_some, Option.join_none, List.map_cons, List.map_nil, if_true, if_false, Bool.false_eq_true, reduceIte, Bool.true_or, Bool.or_true, Bool.false_or, Bool.true_and, Bool.and_true, Bool.false_and, Bool.and_false, true_and, and_true, Bool.not_true, Bool.not_false, decide_eq_true_eq, len0, len1, len2, len3, len4, len5, len6, abs2, pos2, wM_disp, wM_consP, isDk_dk, isDk_dt, toD_ct, Ct.toD, hp1.sl]
    refine drawn_gates_w (leaves := lv) (many := gn) hp2 (by omega) (by omega) (by omega) fun gs p3 hg hlen hp3 => ?_
    simp only [natD, wO_some, wO_none, wO_ite, wM_ok, wM_bad, wM_pure, wM_bind, wM_map, wM_iteB, wM_iteM, wM_nameB, wM_nameS, wM_nameV, wM_nameM, wM_asSh, wM_cons, wM_consO, wM_consT, wM_consB, wM_tup, wM_lst, wM_opS, wM_opN, wM_bl, wM_andT, wM_orT, wM_if, wM_andV, wM_orV, wM_tru, wM_neg, wM_part, wM_slice, wM_call, wM_isi, wM_op1, wM_bO, wM_chain, wM_sub, wM_subN, wM_has, wM_callF, wM_make, wM_newK, wM_newT, wM_get1, wM_get2, wM_field, wM_seq, wM_rngA1, wM_rngA2, wM_enumL, wM_enumT, wM_zipL, wM_zipT, wS_seq, wS_next, wS_brk, wS_cont, wS_bad, wS_if, wS_ret, wS_retN, wS_expr, wS_asg, wS_tg, wS_par, wS_app, wS_put, wS_fldX, wO_bName0, wO_bNameS, wO_bTup, wO_bNil, wO_bCons, wO_fillN, wO_fillS, wO_fillP, putBack_some, putBack_none, putBack_nil, slotSh_s, slotSh_sh, slotSh_ct, slotSh_rc, wipe_nil, wipe_cons, back_nil, back_cons, rest_s, rest_n, rest_sh, rest_ct, rest_rc, add_ii, sub_ii, cmp_ii, eq_ii, ne_ii, is_nn, is_tn, is_ln, is_in, is_bn, is_bb, isn_nn, isn_tn, isn_ln, isn_in, len_l, len_t, int_i, int_b, abs_i, tup_l, tup_t, list_l, list_t, f1_ap, f2_ap, tru_b, tru_t, tru_l, tru_n, item_lstS, item_lstO, item_tupS, wO_map, wO_bind, isi_int_i, isi_int_b, isi_int_n, isi_int_t, isi_int_l, isi_int_s, isi_bool_i, isi_bool_b, isi_bool_n, isi_tl_t, isi_tl_l, isi_tl_i, isi_tl_n, isi_t_t, isi_t_l, isi_l_t, isi_l_l, slice_l, slice_t, shO_sh, blO_bl, blD_bl, intO_i, seq_l, seq_t, seq_f, ownL_l, two_ap, isSh_s, made_ok, toD_sh, toD_lst, mod_ii, mul_ii, div_ii, add_ll, add_tt, List.getElem?_cons_zero, List.getElem?_cons_succ, List.set_cons_zero, List.set_cons_succ, Option.join_some, Option.join_none, List.map_cons, List.map_nil, if_true, if_false, Bool.false_eq_true, reduceIte, Bool.true_or, Bool.or_true, Bool.false_or, Bool.true_and, Bool.and_true, Bool.false_and, Bool.and_false, true_and, and_true, Bool.not_true, Bool.not_false, decide_eq_true_eq, len0, len1, len2, len3, len4, len5, len6, abs2, pos2, wM_disp, wM_consP, isDk_dk, isDk_dt, toD_ct, Ct.toD, hp2.sl]
    refine Graph_w (leaves := lv) hg (by omega) (by omega) ?_
    simp only [natD, wO_some, wO_none, wO_ite, wM_ok, wM_bad, wM_pure, wM_bind, wM_map, wM_iteB, wM_iteM, wM_nameB, wM_nameS, wM_nameV, wM_nameM, wM_asSh, wM_cons, wM_consO, wM_consT, wM_consB, wM_tup, wM_lst, wM_opS, wM_opN, wM_bl, wM_andT, wM_orT, wM_if, wM_andV, wM_orV, wM_tru, wM_neg, wM_part, wM_slice, wM_call, wM_isi, wM_op1, wM_bO, wM_chain, wM_sub, wM_subN, wM_has, wM_callF, wM_make, wM_newK, wM_newT, wM_get1, wM_get2, wM_field, wM_seq, wM_rngA1, wM_rngA2, wM_enumL, wM_enumT, wM_zipL, wM_zipT, wS_seq, wS_next, wS_brk, wS_cont, wS_bad, wS_if, wS_ret, wS_retN, wS_expr, wS_asg, wS_tg, wS_par, wS_app, wS_put, wS_fldX, wO_bName0, wO_bNameS, wO_bTup, wO_bNil, wO_bCons, wO_fillN, wO_fillS, wO_fillP, putBack_some, putBack_none, putBack_nil, slotSh_s, slotSh_sh, slotSh_ct, slotSh_rc, wipe_nil, wipe_cons, back_nil, back_cons, rest_s, rest_n, rest_sh, rest_ct, rest_rc, add_ii, sub_ii, cmp_ii, eq_ii, ne_ii, is_nn, is_tn, is_ln, is_in, is_bn, is_bb, isn_nn, isn_tn, isn_ln, isn_in, len_l, len_t, int_i, int_b, abs_i, tup_l, tup_t, list_l, list_t, f1_ap, f2_ap, tru_b, tru_t, tru_l, tru_n, item_lstS, item_lstO, item_tupS, wO_map, wO_bind, isi_int_i, isi_int_b, isi_int_n, isi_int_t, isi_int_l, isi_int_s, isi_bool_i, isi_bool_b, isi_bool_n, isi_tl_t, isi_tl_l, isi_tl_i, isi_tl_n, isi_t_t, isi_t_l, isi_l_t, isi_l_l, slice_l, slice_t, shO_sh, blO_bl, blD_bl, intO_i, seq_l, seq_t, seq_f, ownL_l, two_ap, isSh_s, made_ok, toD_sh, toD_lst, mod_ii, mul_ii, div_ii, add_ll, add_tt, List.getElem?_cons_zero, List.getElem?_cons_succ, List.set_cons_zero, List.set_cons_succ, Option.join_some, Option.join_none, List.map_cons, List.map_nil, if_true, if_false, Bool.false_eq_true, reduceIte, Bool.true_or, Bool.or_true, Bool.false_or, Bool.true_and, Bool.and_true, Bool.false_and, Bool.and_false, true_and, and_true, Bool.not_true, Bool.not_false, decide_eq_true_eq, len0, len1, len2, len3, len4, len5, len6, abs2, pos2, wM_disp, wM_consP, isDk_dk, isDk_dt, toD_ct, Ct.toD]
    refine clauses_of_w hg (by omega) (by omega) ?_
    simp only [natD, wO_some, wO_none, wO_ite, wM_ok, wM_bad, wM_pure, wM_bind, wM_map, wM_iteB, wM_iteM, wM_nameB, wM_nameS, wM_nameV, wM_nameM, wM_asSh, wM_cons, wM_consO, wM_consT, wM_consB, wM_tup, wM_lst, wM_opS, wM_opN, wM_bl, wM_andT, wM_orT, wM_if, wM_andV, wM_orV, wM_tru, wM_neg, wM_part, wM_slice, wM_call, wM_isi, wM_op1, wM_bO, wM_chain, wM_sub, wM_subN, wM_has, wM_callF, wM_make, wM_newK, wM_newT, wM_get1, wM_get2, wM_field, wM_seq, wM_rngA1, wM_rngA2, wM_enumL, wM_enumT, wM_zipL, wM_zipT, wS_seq, wS_next, wS_brk, wS_cont, wS_bad, wS_if, wS_ret, wS_retN, wS_expr, wS_asg, wS_tg, wS_par, wS_app, wS_put, wS_fldX, wO_bName0, wO_bNameS, wO_bTup, wO_bNil, wO_bCons, wO_fillN, wO_fillS, wO_fillP, putBack_some, putBack_none, putBack_nil, slotSh_s, slotSh_sh, slotSh_ct, slotSh_rc, wipe_nil, wipe_cons, back_nil, back_cons, rest_s, rest_n, rest_sh, rest_ct, rest_rc, add_ii, sub_ii, cmp_ii, eq_ii, ne_ii, is_nn, is_tn, is_ln, is_in, is_bn, is_bb, isn_nn, isn_tn, isn_ln, isn_in, len_l, len_t, int_i, int_b, abs_i, tup_l, tup_t, list_l, list_t, f1_ap, f2_ap, tru_b, tru_t, tru_l, tru_n, item_lstS, item_lstO, item_tupS, wO_map, wO_bind, isi_int_i, isi_int_b, isi_int_n, isi_int_t, isi_int_l, isi_int_s, isi_bool_i, isi_bool_b, isi_bool_n, isi_tl_t, isi_tl_l, isi_tl_i, isi_tl_n, isi_t_t, isi_t_l, isi_l_t, isi_l_l, slice_l, slice_t, shO_sh, blO_bl, blD_bl, intO_i, seq_l, seq_t, seq_f, ownL_l, two_ap, isSh_s, made_ok, toD_sh, toD_lst, mod_ii, mul_ii, div_ii, add_ll, add_tt, List.getElem?_cons_zero, List.getElem?_cons_succ, List.set_cons_zero, List.set_cons_succ, Option.join_some, Option.join_none, List.map_cons, List.map_nil, if_true, if_false, Bool.false_eq_true, reduceIte, Bool.true_or, Bool.or_true, Bool.false_or, Bool.true_and, Bool.and_true, Bool.false_and, Bool.and_false, true_and, and_true, Bool.not_true, Bool.not_false, decide_eq_true_eq, len0, len1, len2, len3, len4, len5, len6, abs2, pos2, wM_disp, wM_consP, isDk_dk, isDk_dt, toD_ct, Ct.toD]
    refine own_clauses_w (leaves := lv) hg (by omega) (by omega) ?_
    simp only [natD, wO_some, wO_none, wO_ite, wM_ok, wM_bad, wM_pure, wM_bind, wM_map, wM_iteB, wM_iteM, wM_nameB, wM_nameS, wM_nameV, wM_nameM, wM_asSh, wM_cons, wM_consO, wM_consT, wM_consB, wM_tup, wM_lst, wM_opS, wM_opN, wM_bl, wM_andT, wM_orT, wM_if, wM_andV, wM_orV, wM_tru, wM_neg, wM_part, wM_slice, wM_call, wM_isi, wM_op1, wM_bO, wM_chain, wM_sub, wM_subN, wM_has, wM_callF, wM_make, wM_newK, wM_newT, wM_get1, wM_get2, wM_field, wM_seq, wM_rngA1, wM_rngA2, wM_enumL, wM_enumT, wM_zipL, wM_zipT, wS_seq, wS_next, wS_brk, wS_cont, wS_bad, wS_if, wS_ret, wS_retN, wS_expr, wS_asg, wS_tg, wS_par, wS_app, wS_put, wS_fldX, wO_bName0, wO_bNameS, wO_bTup, wO_bNil, wO_bCons, wO_fillN, wO_fillS, wO_fillP, putBack_some, putBack_none, putBack_nil, slotSh_s, slotSh_sh, slotSh_ct, slotSh_rc, wipe_nil, wipe_cons, back_nil, back_cons, rest_s, rest_n, rest_sh, rest_ct, rest_rc, add_ii, sub_ii, cmp_ii, eq_ii, ne_ii, is_nn, is_tn, is_ln, is_in, is_bn, is_bb, isn_nn, isn_tn, isn_ln, isn_in, len_l, len_t, int_i, int_b, abs_i, tup_l, tup_t, list_l, list_t, f1_ap, f2_ap, tru_b, tru_t, tru_l, tru_n, item_lstS, item_lstO, item_tupS, wO_map, wO_bind, isi_int_i, isi_int_b, isi_int_n, isi_int_t, isi_int_l, isi_int_s, isi_bool_i, isi_bool_b, isi_bool_n, isi_tl_t, isi_tl_l, isi_tl_i, isi_tl_n, isi_t_t, isi_t_l, isi_l_t, isi_l_l, slice_l, slice_t, shO_sh, blO_bl, blD_bl, intO_i, seq_l, seq_t, seq_f, ownL_l, two_ap, isSh_s, made_ok, toD_sh, toD_lst, mod_ii, mul_ii, div_ii, add_ll, add_tt, List.getElem?_cons_zero, List.getElem?_cons_succ, List.set_cons_zero, List.set_cons_succ, Option.join_some, Option.join_none, List.map_cons, List.map_nil, if_true, if_false, Bool.false_eq_true, reduceIte, Bool.true_or, Bool.or_true, Bool.false_or, Bool.true_and, Bool.and_true, Bool.false_and, Bool.and_false, true_and, and_true, Bool.not_true, Bool.not_false, decide_eq_true_eq, len0, len1, len2, len3, len4, len5, len6, abs2, pos2, wM_disp, wM_consP, isDk_dk, isDk_dt, toD_ct, Ct.toD]
    obtain ⟨xr, hxr⟩ : ∃ x, reprD (.tup ((clsL lv gs).map cD)) = some (.sh (.str x)) := RB.ok ((RB.tup (dp := 1) (n := 3 * 13 + 2) (k := 18) (by have := clsL_len (leaves := lv) (gs := gs); rw [List.length_map]; omega) fun d hd => by
      obtain ⟨cs, hcs, rfl⟩ := List.mem_map.mp hd
      obtain ⟨h1, h2⟩ := clsL_ok hg cs hcs
      exact rb_cls h1 (by omega) h2).mono (by decide) (Nat.le_refl _)) (by decide)
    simp only [wO_some, wO_none, wO_ite, wM_ok, wM_bad, wM_pure, wM_bind, wM_map, wM_iteB, wM_iteM, wM_nameB, wM_nameS, wM_nameV, wM_nameM, wM_asSh, wM_cons, wM_consO, wM_consT, wM_consB, wM_tup, wM_lst, wM_opS, wM_opN, wM_bl, wM_andT, wM_orT, wM_if, wM_andV, wM_orV, wM_tru, wM_neg, wM_part, wM_slice, wM_call, wM_isi, wM_op1, wM_bO, wM_chain, wM_sub, wM_subN, wM_has, wM_callF, wM_make, wM_newK, wM_newT, wM_get1, wM_get2, wM_field, wM_seq, wM_rngA1, wM_rngA2, wM_enumL, wM_enumT, wM_zipL, wM_zipT, wS_seq, wS_next, wS_brk, wS_cont, wS_bad, wS_if, wS_ret, wS_retN, wS_expr, wS_asg, wS_tg, wS_par, wS_app, wS_put, wS_fldX, wO_bName0, wO_bNameS, wO_bTup, wO_bNil, wO_bCons, wO_fillN, wO_fillS, wO_fillP, putBack_some, putBack_none, putBack_nil, slotSh_s, slotSh_sh, slotSh_ct, slotSh_rc, wipe_nil, wipe_cons, back_nil, back_cons, rest_s, rest_n, rest_sh, rest_ct, rest_rc, add_ii, sub_ii, cmp_ii, eq_ii, ne_ii, is_nn, is_tn, is_ln, is_in, is_bn, is_bb, isn_nn, isn_tn, isn_ln, isn_in, len_l, len_t, int_i, int_b, abs_i, tup_l, tup_t, list_l, list_t, f1_ap, f2_ap, tru_b, tru_t, tru_l, tru_n, item_lstS, item_lstO, item_tupS, wO_map, wO_bind, isi_int_i, isi_int_b, isi_int_n, isi_int_t, isi_int_l, isi_int_s, isi_bool_i, isi_bool_b, isi_bool_n, isi_tl_t, isi_tl_l, isi_tl_i, isi_tl_n, isi_t_t, isi_t_l, isi_l_t, isi_l_l, slice_l, slice_t, shO_sh, blO_bl, blD_bl, intO_i, seq_l, seq_t, seq_f, ownL_l, two_ap, isSh_s, made_ok, toD_sh, toD_lst, mod_ii, mul_ii, div_ii, add_ll, add_tt, List.getElem?_cons_zero, List.getElem?_cons_succ, List.set_cons_zero, List.set_cons_succ, Option.join_some, Option.join_none, List.map_cons, List.map_nil, if_true, if_false, Bool.false_eq_true, reduceIte, Bool.true_or, Bool.or_true, Bool.false_or, Bool.true_and, Bool.and_true, Bool.false_and, Bool.and_false, true_and, and_true, Bool.not_true, Bool.not_false, decide_eq_true_eq, len0, len1, len2, len3, len4, len5, len6, abs2, pos2, wM_disp, wM_consP, isDk_dk, isDk_dt, toD_ct, Ct.toD, hxr, neS_self]
    refine wS_forL bitsD (rowsL (lv + gn)) (fun pre ρ => ∃ ks vs a b, ρ = [some (.sh (.fz (ns.map D.int))), some p3, some (.sh (.int (0 + (k : Int)))), some (.sh (natD lv)), some (.sh (.tup (gs.map gD))), some (.sh (.tup ((clsL lv gs).map cD))), some (.sh (.tup ((clsL lv gs).map cD))), some (.fd (.ct (.dt ks vs))), a, b, none, none, none, none, none, none] ∧ WaysOk lv gs pre ks vs) ?_ ?_ ?_
    · simp only [wO_some, wO_none, wO_ite, wM_ok, wM_bad, wM_pure, wM_bind, wM_map, wM_iteB, wM_iteM, wM_nameB, wM_nameS, wM_nameV, wM_nameM, wM_asSh, wM_cons, wM_consO, wM_consT, wM_consB, wM_tup, wM_lst, wM_opS, wM_opN, wM_bl, wM_andT, wM_orT, wM_if, wM_andV, wM_orV, wM_tru, wM_neg, wM_part, wM_slice, wM_call, wM_isi, wM_op1, wM_bO, wM_chain, wM_sub, wM_subN, wM_has, wM_callF, wM_make, wM_newK, wM_newT, wM_get1, wM_get2, wM_field, wM_seq, wM_rngA1, wM_rngA2, wM_enumL, wM_enumT, wM_zipL, wM_zipT, wS_seq, wS_next, wS_brk, wS_cont, wS_bad, wS_if, wS_ret, wS_retN, wS_expr, wS_asg, wS_tg, wS_par, wS_app, wS_put, wS_fldX, wO_bName0, wO_bNameS, wO_bTup, wO_bNil, wO_bCons, wO_fillN, wO_fillS, wO_fillP, putBack_some, putBack_none, putBack_nil, slotSh_s, slotSh_sh, slotSh_ct, slotSh_rc, wipe_nil, wipe_cons, back_nil, back_cons, rest_s, rest_n, rest_sh, rest_ct, rest_rc, add_ii, sub_ii, cmp_ii, eq_ii, ne_ii, is_nn, is_tn, is_ln, is_in, is_bn, is_bb, isn_nn, isn_tn, isn_ln, isn_in, len_l, len_t, int_i, int_b, abs_i, tup_l, tup_t, list_l, list_t, f1_ap, f2_ap, tru_b, tru_t, tru_l, tru_n, item_lstS, item_lstO, item_tupS, wO_map, wO_bind, isi_int_i, isi_int_b, isi_int_n, isi_int_t, isi_int_l, isi_int_s, isi_bool_i, isi_bool_b, isi_bool_n, isi_tl_t, isi_tl_l, isi_tl_i, isi_tl_n, isi_t_t, isi_t_l, isi_l_t, isi_l_l, slice_l, slice_t, shO_sh, blO_bl, blD_bl, intO_i, seq_l, seq_t, seq_f, ownL_l, two_ap, isSh_s, made_ok, toD_sh, toD_lst, mod_ii, mul_ii, div_ii, add_ll, add_tt, List.getElem?_cons_zero, List.getElem?_cons_succ, List.set_cons_zero, List.set_cons_succ, Option.join_some, Option.join_none, List.map_cons, List.map_nil, if_true, if_false, Bool.false_eq_true, reduceIte, Bool.true_or, Bool.or_true, Bool.false_or, Bool.true_and, Bool.and_true, Bool.false_and, Bool.and_false, true_and, and_true, Bool.not_true, Bool.not_false, decide_eq_true_eq, len0, len1, len2, len3, len4, len5, len6, abs2, pos2, wM_disp, wM_consP, isDk_dk, isDk_dt, toD_ct, Ct.toD]
      have e1 : (lv : Int) + ((gs.map gD).length : Int) = ((lv + gn : Nat) : Int) := by rw [List.length_map, hlen]; omega
      rw [e1]
      refine rows_w (n := lv + gn) (by omega) ?_
      simp only [wO_some, wO_none, wO_ite, wM_ok, wM_bad, wM_pure, wM_bind, wM_map, wM_iteB, wM_iteM, wM_nameB, wM_nameS, wM_nameV, wM_nameM, wM_asSh, wM_cons, wM_consO, wM_consT, wM_consB, wM_tup, wM_lst, wM_opS, wM_opN, wM_bl, wM_andT, wM_orT, wM_if, wM_andV, wM_orV, wM_tru, wM_neg, wM_part, wM_slice, wM_call, wM_isi, wM_op1, wM_bO, wM_chain, wM_sub, wM_subN, wM_has, wM_callF, wM_make, wM_newK, wM_newT, wM_get1, wM_get2, wM_field, wM_seq, wM_rngA1, wM_rngA2, wM_enumL, wM_enumT, wM_zipL, wM_zipT, wS_seq, wS_next, wS_brk, wS_cont, wS_bad, wS_if, wS_ret, wS_retN, wS_expr, wS_asg, wS_tg, wS_par, wS_app, wS_put, wS_fldX, wO_bName0, wO_bNameS, wO_bTup, wO_bNil, wO_bCons, wO_fillN, wO_fillS, wO_fillP, putBack_some, putBack_none, putBack_nil, slotSh_s, slotSh_sh, slotSh_ct, slotSh_rc, wipe_nil, wipe_cons, back_nil, back_cons, rest_s, rest_n, rest_sh, rest_ct, rest_rc, add_ii, sub_ii, cmp_ii, eq_ii, ne_ii, is_nn, is_tn, is_ln, is_in, is_bn, is_bb, isn_nn, isn_tn, isn_ln, isn_in, len_l, len_t, int_i, int_b, abs_i, tup_l, tup_t, list_l, list_t, f1_ap, f2_ap, tru_b, tru_t, tru_l, tru_n, item_lstS, item_lstO, item_tupS, wO_map, wO_bind, isi_int_i, isi_int_b, isi_int_n, isi_int_t, isi_int_l, isi_int_s, isi_bool_i, isi_bool_b, isi_bool_n, isi_tl_t, isi_tl_l, isi_tl_i, isi_tl_n, isi_t_t, isi_t_l, isi_l_t, isi_l_l, slice_l, slice_t, shO_sh, blO_bl, blD_bl, intO_i, seq_l, seq_t, seq_f, ownL_l, two_ap, isSh_s, made_ok, toD_sh, toD_lst, mod_ii, mul_ii, div_ii, add_ll, add_tt, List.getElem?_cons_zero, List.getElem?_cons_succ, List.set_cons_zero, List.set_cons_succ, Option.join_some, Option.join_none, List.map_cons, List.map_nil, if_true, if_false, Bool.false_eq_true, reduceIte, Bool.true_or, Bool.or_true, Bool.false_or, Bool.true_and, Bool.and_true, Bool.false_and, Bool.and_false, true_and, and_true, Bool.not_true, Bool.not_false, decide_eq_true_eq, len0, len1, len2, len3, len4, len5, len6, abs2, pos2, wM_disp, wM_consP, isDk_dk, isDk_dt, toD_ct, Ct.toD, toD_lst, seq_l]
      exact ⟨[], [], _, _, rfl, rfl, Nat.zero_le _, fun b hb => by simp [lookK]⟩
    · rintro pre x post _ ee ⟨ks, vs, a, b, rfl, hw⟩
      have hx : x ∈ rowsL (lv + gn) := by rw [ee]; simp
      have hnd := rowsL_nd (lv + gn)
      rw [ee] at hnd
      have hxp : x ∉ pre := fun z => (List.nodup_append.mp hnd).2.2 x z x (by simp) rfl
      obtain ⟨hx1, hx2⟩ := rowsL_mem.mp hx
      have hprel : pre.length ≤ 2 ^ (lv + gn) := by rw [← rowsL_len, ee]; simp
      have hpow : 2 ^ (lv + gn) ≤ 2 ^ 10 := Nat.pow_le_pow_right (by decide) (by omega)
      have h210 : (2 : Nat) ^ 10 = 1024 := by decide
      have hcll := clsL_len (leaves := lv) (gs := gs)
      simp only [wO_some, wO_none, wO_ite, wM_ok, wM_bad, wM_pure, wM_bind, wM_map, wM_iteB, wM_iteM, wM_nameB, wM_nameS, wM_nameV, wM_nameM, wM_asSh, wM_cons, wM_consO, wM_consT, wM_consB, wM_tup, wM_lst, wM_opS, wM_opN, wM_bl, wM_andT, wM_orT, wM_if, wM_andV, wM_orV, wM_tru, wM_neg, wM_part, wM_slice, wM_call, wM_isi, wM_op1, wM_bO, wM_chain, wM_sub, wM_subN, wM_has, wM_callF, wM_make, wM_newK, wM_newT, wM_get1, wM_get2, wM_field, wM_seq, wM_rngA1, wM_rngA2, wM_enumL, wM_enumT, wM_zipL, wM_zipT, wS_seq, wS_next, wS_brk, wS_cont, wS_bad, wS_if, wS_ret, wS_retN, wS_expr, wS_asg, wS_tg, wS_par, wS_app, wS_put, wS_fldX, wO_bName0, wO_bNameS, wO_bTup, wO_bNil, wO_bCons, wO_fillN, wO_fillS, wO_fillP, putBack_some, putBack_none, putBack_nil, slotSh_s, slotSh_sh, slotSh_ct, slotSh_rc, wipe_nil, wipe_cons, back_nil, back_cons, rest_s, rest_n, rest_sh, rest_ct, rest_rc, add_ii, sub_ii, cmp_ii, eq_ii, ne_ii, is_nn, is_tn, is_ln, is_in, is_bn, is_bb, isn_nn, isn_tn, isn_ln, isn_in, len_l, len_t, int_i, int_b, abs_i, tup_l, tup_t, list_l, list_t, f1_ap, f2_ap, tru_b, tru_t, tru_l, tru_n, item_lstS, item_lstO, item_tupS, wO_map, wO_bind, isi_int_i, isi_int_b, isi_int_n, isi_int_t, isi_int_l, isi_int_s, isi_bool_i, isi_bool_b, isi_bool_n, isi_tl_t, isi_tl_l, isi_tl_i, isi_tl_n, isi_t_t, isi_t_l, isi_l_t, isi_l_l, slice_l, slice_t, shO_sh, blO_bl, blD_bl, intO_i, seq_l, seq_t, seq_f, ownL_l, two_ap, isSh_s, made_ok, toD_sh, toD_lst, mod_ii, mul_ii, div_ii, add_ll, add_tt, List.getElem?_cons_zero, List.getElem?_cons_succ, List.set_cons_zero, List.set_cons_succ, Option.join_some, Option.join_none, List.map_cons, List.map_nil, if_true, if_false, Bool.false_eq_true, reduceIte, Bool.true_or, Bool.or_true, Bool.false_or, Bool.true_and, Bool.and_true, Bool.false_and, Bool.and_false, true_and, and_true, Bool.not_true, Bool.not_false, decide_eq_true_eq, len0, len1, len2, len3, len4, len5, len6, abs2, pos2, wM_disp, wM_consP, isDk_dk, isDk_dt, toD_ct, Ct.toD]
      refine wM_lcM cD (clsL lv gs) (fun cs => .bl (satB x cs)) ?_
      simp only [wO_some, wO_none, wO_ite, wM_ok, wM_bad, wM_pure, wM_bind, wM_map, wM_iteB, wM_iteM, wM_nameB, wM_nameS, wM_nameV, wM_nameM, wM_asSh, wM_cons, wM_consO, wM_consT, wM_consB, wM_tup, wM_lst, wM_opS, wM_opN, wM_bl, wM_andT, wM_orT, wM_if, wM_andV, wM_orV, wM_tru, wM_neg, wM_part, wM_slice, wM_call, wM_isi, wM_op1, wM_bO, wM_chain, wM_sub, wM_subN, wM_has, wM_callF, wM_make, wM_newK, wM_newT, wM_get1, wM_get2, wM_field, wM_seq, wM_rngA1, wM_rngA2, wM_enumL, wM_enumT, wM_zipL, wM_zipT, wS_seq, wS_next, wS_brk, wS_cont, wS_bad, wS_if, wS_ret, wS_retN, wS_expr, wS_asg, wS_tg, wS_par, wS_app, wS_put, wS_fldX, wO_bName0, wO_bNameS, wO_bTup, wO_bNil, wO_bCons, wO_fillN, wO_fillS, wO_fillP, putBack_some, putBack_none, putBack_nil, slotSh_s, slotSh_sh, slotSh_ct, slotSh_rc, wipe_nil, wipe_cons, back_nil, back_cons, rest_s, rest_n, rest_sh, rest_ct, rest_rc, add_ii, sub_ii, cmp_ii, eq_ii, ne_ii, is_nn, is_tn, is_ln, is_in, is_bn, is_bb, isn_nn, isn_tn, isn_ln, isn_in, len_l, len_t, int_i, int_b, abs_i, tup_l, tup_t, list_l, list_t, f1_ap, f2_ap, tru_b, tru_t, tru_l, tru_n, item_lstS, item_lstO, item_tupS, wO_map, wO_bind, isi_int_i, isi_int_b, isi_int_n, isi_int_t, isi_int_l, isi_int_s, isi_bool_i, isi_bool_b, isi_bool_n, isi_tl_t, isi_tl_l, isi_tl_i, isi_tl_n, isi_t_t, isi_t_l, isi_l_t, isi_l_l, slice_l, slice_t, shO_sh, blO_bl, blD_bl, intO_i, seq_l, seq_t, seq_f, ownL_l, two_ap, isSh_s, made_ok, toD_sh, toD_lst, mod_ii, mul_ii, div_ii, add_ll, add_tt, List.getElem?_cons_zero, List.getElem?_cons_succ, List.set_cons_zero, List.set_cons_succ, Option.join_some, Option.join_none, List.map_cons, List.map_nil, if_true, if_false, Bool.false_eq_true, reduceIte, Bool.true_or, Bool.or_true, Bool.false_or, Bool.true_and, Bool.and_true, Bool.false_and, Bool.and_false, true_and, and_true, Bool.not_true, Bool.not_false, decide_eq_true_eq, len0, len1, len2, len3, len4, len5, len6, abs2, pos2, wM_disp, wM_consP, isDk_dk, isDk_dt, toD_ct, Ct.toD]
      refine ⟨by show _ ≤ 16777216; omega, fun cs hcs => ?_, ?_⟩
      · obtain ⟨h1, h2⟩ := clsL_ok hg cs hcs
        refine satisfies_w (a := .sh (bitsD x)) (bs := x) (cs := cs) (.inl rfl) (.inl rfl) (by omega) (by rw [hx1, ← hlen]; exact h1) (by omega) ?_
        simp only [wO_some, wO_none, wO_ite, wM_ok, wM_bad, wM_pure, wM_bind, wM_map, wM_iteB, wM_iteM, wM_nameB, wM_nameS, wM_nameV, wM_nameM, wM_asSh, wM_cons, wM_consO, wM_consT, wM_consB, wM_tup, wM_lst, wM_opS, wM_opN, wM_bl, wM_andT, wM_orT, wM_if, wM_andV, wM_orV, wM_tru, wM_neg, wM_part, wM_slice, wM_call, wM_isi, wM_op1, wM_bO, wM_chain, wM_sub, wM_subN, wM_has, wM_callF, wM_make, wM_newK, wM_newT, wM_get1, wM_get2, wM_field, wM_seq, wM_rngA1, wM_rngA2, wM_enumL, wM_enumT, wM_zipL, wM_zipT, wS_seq, wS_next, wS_brk, wS_cont, wS_bad, wS_if, wS_ret, wS_retN, wS_expr, wS_asg, wS_tg, wS_par, wS_app, wS_put, wS_fldX, wO_bName0, wO_bNameS, wO_bTup, wO_bNil, wO_bCons, wO_fillN, wO_fillS, wO_fillP, putBack_some, putBack_none, putBack_nil, slotSh_s, slotSh_sh, slotSh_ct, slotSh_rc, wipe_nil, wipe_cons, back_nil, back_cons, rest_s, rest_n, rest_sh, rest_ct, rest_rc, add_ii, sub_ii, cmp_ii, eq_ii, ne_ii, is_nn, is_tn, is_ln, is_in, is_bn, is_bb, isn_nn, isn_tn, isn_ln, isn_in, len_l, len_t, int_i, int_b, abs_i, tup_l, tup_t, list_l, list_t, f1_ap, f2_ap, tru_b, tru_t, tru_l, tru_n, item_lstS, item_lstO, item_tupS, wO_map, wO_bind, isi_int_i, isi_int_b, isi_int_n, isi_int_t, isi_int_l, isi_int_s, isi_bool_i, isi_bool_b, isi_bool_n, isi_tl_t, isi_tl_l, isi_tl_i, isi_tl_n, isi_t_t, isi_t_l, isi_l_t, isi_l_l, slice_l, slice_t, shO_sh, blO_bl, blD_bl, intO_i, seq_l, seq_t, seq_f, ownL_l, two_ap, isSh_s, made_ok, toD_sh, toD_lst, mod_ii, mul_ii, div_ii, add_ll, add_tt, List.getElem?_cons_zero, List.getElem?_cons_succ, List.set_cons_zero, List.set_cons_succ, Option.join_some, Option.join_none, List.map_cons, List.map_nil, if_true, if_false, Bool.false_eq_true, reduceIte, Bool.true_or, Bool.or_true, Bool.false_or, Bool.true_and, Bool.and_true, Bool.false_and, Bool.and_false, true_and, and_true, Bool.not_true, Bool.not_false, decide_eq_true_eq, len0, len1, len2, len3, len4, len5, len6, abs2, pos2, wM_disp, wM_consP, isDk_dk, isDk_dt, toD_ct, Ct.toD]
      · refine wM_lcF (fun cs => .bl (satB x cs)) (clsL lv gs) (fun _ => false) (fun _ => .int 1) ?_
        simp only [wO_some, wO_none, wO_ite, wM_ok, wM_bad, wM_pure, wM_bind, wM_map, wM_iteB, wM_iteM, wM_nameB, wM_nameS, wM_nameV, wM_nameM, wM_asSh, wM_cons, wM_consO, wM_consT, wM_consB, wM_tup, wM_lst, wM_opS, wM_opN, wM_bl, wM_andT, wM_orT, wM_if, wM_andV, wM_orV, wM_tru, wM_neg, wM_part, wM_slice, wM_call, wM_isi, wM_op1, wM_bO, wM_chain, wM_sub, wM_subN, wM_has, wM_callF, wM_make, wM_newK, wM_newT, wM_get1, wM_get2, wM_field, wM_seq, wM_rngA1, wM_rngA2, wM_enumL, wM_enumT, wM_zipL, wM_zipT, wS_seq, wS_next, wS_brk, wS_cont, wS_bad, wS_if, wS_ret, wS_retN, wS_expr, wS_asg, wS_tg, wS_par, wS_app, wS_put, wS_fldX, wO_bName0, wO_bNameS, wO_bTup, wO_bNil, wO_bCons, wO_fillN, wO_fillS, wO_fillP, putBack_some, putBack_none, putBack_nil, slotSh_s, slotSh_sh, slotSh_ct, slotSh_rc, wipe_nil, wipe_cons, back_nil, back_cons, rest_s, rest_n, rest_sh, rest_ct, rest_rc, add_ii, sub_ii, cmp_ii, eq_ii, ne_ii, is_nn, is_tn, is_ln, is_in, is_bn, is_bb, isn_nn, isn_tn, isn_ln, isn_in, len_l, len_t, int_i, int_b, abs_i, tup_l, tup_t, list_l, list_t, f1_ap, f2_ap, tru_b, tru_t, tru_l, tru_n, item_lstS, item_lstO, item_tupS, wO_map, wO_bind, isi_int_i, isi_int_b, isi_int_n, isi_int_t, isi_int_l, isi_int_s, isi_bool_i, isi_bool_b, isi_bool_n, isi_tl_t, isi_tl_l, isi_tl_i, isi_tl_n, isi_t_t, isi_t_l, isi_l_t, isi_l_l, slice_l, slice_t, shO_sh, blO_bl, blD_bl, intO_i, seq_l, seq_t, seq_f, ownL_l, two_ap, isSh_s, made_ok, toD_sh, toD_lst, mod_ii, mul_ii, div_ii, add_ll, add_tt, List.getElem?_cons_zero, List.getElem?_cons_succ, List.set_cons_zero, List.set_cons_succ, Option.join_some, Option.join_none, List.map_cons, List.map_nil, if_true, if_false, Bool.false_eq_true, reduceIte, Bool.true_or, Bool.or_true, Bool.false_or, Bool.true_and, Bool.and_true, Bool.false_and, Bool.and_false, true_and, and_true, Bool.not_true, Bool.not_false, decide_eq_true_eq, len0, len1, len2, len3, len4, len5, len6, abs2, pos2, wM_disp, wM_consP, isDk_dk, isDk_dt, toD_ct, Ct.toD, toD_lst, seq_l]
        refine ⟨by show _ ≤ 16777216; omega, fun cs hcs => ⟨fun z => z.elim, fun _ => trivial⟩, ?_⟩
        have ef : ((clsL lv gs).filter fun _ => false) = [] := by simp
        have e00 : neO (.lst []) (.lst []) = some (.sh (.bl false)) := neO_nilL (ds := []) (sh_lst (n := 0) (by simp)) (by decide)
        simp only [wO_some, wO_none, wO_ite, wM_ok, wM_bad, wM_pure, wM_bind, wM_map, wM_iteB, wM_iteM, wM_nameB, wM_nameS, wM_nameV, wM_nameM, wM_asSh, wM_cons, wM_consO, wM_consT, wM_consB, wM_tup, wM_lst, wM_opS, wM_opN, wM_bl, wM_andT, wM_orT, wM_if, wM_andV, wM_orV, wM_tru, wM_neg, wM_part, wM_slice, wM_call, wM_isi, wM_op1, wM_bO, wM_chain, wM_sub, wM_subN, wM_has, wM_callF, wM_make, wM_newK, wM_newT, wM_get1, wM_get2, wM_field, wM_seq, wM_rngA1, wM_rngA2, wM_enumL, wM_enumT, wM_zipL, wM_zipT, wS_seq, wS_next, wS_brk, wS_cont, wS_bad, wS_if, wS_ret, wS_retN, wS_expr, wS_asg, wS_tg, wS_par, wS_app, wS_put, wS_fldX, wO_bName0, wO_bNameS, wO_bTup, wO_bNil, wO_bCons, wO_fillN, wO_fillS, wO_fillP, putBack_some, putBack_none, putBack_nil, slotSh_s, slotSh_sh, slotSh_ct, slotSh_rc, wipe_nil, wipe_cons, back_nil, back_cons, rest_s, rest_n, rest_sh, rest_ct, rest_rc, add_ii, sub_ii, cmp_ii, eq_ii, ne_ii, is_nn, is_tn, is_ln, is_in, is_bn, is_bb, isn_nn, isn_tn, isn_ln, isn_in, len_l, len_t, int_i, int_b, abs_i, tup_l, tup_t, list_l, list_t, f1_ap, f2_ap, tru_b, tru_t, tru_l, tru_n, item_lstS, item_lstO, item_tupS, wO_map, wO_bind, isi_int_i, isi_int_b, isi_int_n, isi_int_t, isi_int_l, isi_int_s, isi_bool_i, isi_bool_b, isi_bool_n, isi_tl_t, isi_tl_l, isi_tl_i, isi_tl_n, isi_t_t, isi_t_l, isi_l_t, isi_l_l, slice_l, slice_t, shO_sh, blO_bl, blD_bl, intO_i, seq_l, seq_t, seq_f, ownL_l, two_ap, isSh_s, made_ok, toD_sh, toD_lst, mod_ii, mul_ii, div_ii, add_ll, add_tt, List.getElem?_cons_zero, List.getElem?_cons_succ, List.set_cons_zero, List.set_cons_succ, Option.join_some, Option.join_none, List.map_cons, List.map_nil, if_true, if_false, Bool.false_eq_true, reduceIte, Bool.true_or, Bool.or_true, Bool.false_or, Bool.true_and, Bool.and_true, Bool.false_and, Bool.and_false, true_and, and_true, Bool.not_true, Bool.not_false, decide_eq_true_eq, len0, len1, len2, len3, len4, len5, len6, abs2, pos2, wM_disp, wM_consP, isDk_dk, isDk_dt, toD_ct, Ct.toD, ef, e00]
        refine wM_lcM cD (clsL lv gs) (fun cs => .bl (satB x cs)) ?_
        simp only [wO_some, wO_none, wO_ite, wM_ok, wM_bad, wM_pure, wM_bind, wM_map, wM_iteB, wM_iteM, wM_nameB, wM_nameS, wM_nameV, wM_nameM, wM_asSh, wM_cons, wM_consO, wM_consT, wM_consB, wM_tup, wM_lst, wM_opS, wM_opN, wM_bl, wM_andT, wM_orT, wM_if, wM_andV, wM_orV, wM_tru, wM_neg, wM_part, wM_slice, wM_call, wM_isi, wM_op1, wM_bO, wM_chain, wM_sub, wM_subN, wM_has, wM_callF, wM_make, wM_newK, wM_newT, wM_get1, wM_get2, wM_field, wM_seq, wM_rngA1, wM_rngA2, wM_enumL, wM_enumT, wM_zipL, wM_zipT, wS_seq, wS_next, wS_brk, wS_cont, wS_bad, wS_if, wS_ret, wS_retN, wS_expr, wS_asg, wS_tg, wS_par, wS_app, wS_put, wS_fldX, wO_bName0, wO_bNameS, wO_bTup, wO_bNil, wO_bCons, wO_fillN, wO_fillS, wO_fillP, putBack_some, putBack_none, putBack_nil, slotSh_s, slotSh_sh, slotSh_ct, slotSh_rc, wipe_nil, wipe_cons, back_nil, back_cons, rest_s, rest_n, rest_sh, rest_ct, rest_rc, add_ii, sub_ii, cmp_ii, eq_ii, ne_ii, is_nn, is_tn, is_ln, is_in, is_bn, is_bb, isn_nn, isn_tn, isn_ln, isn_in, len_l, len_t, int_i, int_b, abs_i, tup_l, tup_t, list_l, list_t, f1_ap, f2_ap, tru_b, tru_t, tru_l, tru_n, item_lstS, item_lstO, item_tupS, wO_map, wO_bind, isi_int_i, isi_int_b, isi_int_n, isi_int_t, isi_int_l, isi_int_s, isi_bool_i, isi_bool_b, isi_bool_n, isi_tl_t, isi_tl_l, isi_tl_i, isi_tl_n, isi_t_t, isi_t_l, isi_l_t, isi_l_l, slice_l, slice_t, shO_sh, blO_bl, blD_bl, intO_i, seq_l, seq_t, seq_f, ownL_l, two_ap, isSh_s, made_ok, toD_sh, toD_lst, mod_ii, mul_ii, div_ii, add_ll, add_tt, List.getElem?_cons_zero, List.getElem?_cons_succ, List.set_cons_zero, List.set_cons_succ, Option.join_some, Option.join_none, List.map_cons, List.map_nil, if_true, if_false, Bool.false_eq_true, reduceIte, Bool.true_or, Bool.or_true, Bool.false_or, Bool.true_and, Bool.and_true, Bool.false_and, Bool.and_false, true_and, and_true, Bool.not_true, Bool.not_false, decide_eq_true_eq, len0, len1, len2, len3, len4, len5, len6, abs2, pos2, wM_disp, wM_consP, isDk_dk, isDk_dt, toD_ct, Ct.toD]
        refine ⟨by show _ ≤ 16777216; omega, fun cs hcs => ?_, ?_⟩
        · obtain ⟨h1, h2⟩ := clsL_ok hg cs hcs
          refine keeps_w (a := .sh (bitsD x)) (bs := x) (cs := cs) (.inl rfl) (.inl rfl) (by omega) (by rw [hx1, ← hlen]; exact h1) (by omega) ?_
          simp only [wO_some, wO_none, wO_ite, wM_ok, wM_bad, wM_pure, wM_bind, wM_map, wM_iteB, wM_iteM, wM_nameB, wM_nameS, wM_nameV, wM_nameM, wM_asSh, wM_cons, wM_consO, wM_consT, wM_consB, wM_tup, wM_lst, wM_opS, wM_opN, wM_bl, wM_andT, wM_orT, wM_if, wM_andV, wM_orV, wM_tru, wM_neg, wM_part, wM_slice, wM_call, wM_isi, wM_op1, wM_bO, wM_chain, wM_sub, wM_subN, wM_has, wM_callF, wM_make, wM_newK, wM_newT, wM_get1, wM_get2, wM_field, wM_seq, wM_rngA1, wM_rngA2, wM_enumL, wM_enumT, wM_zipL, wM_zipT, wS_seq, wS_next, wS_brk, wS_cont, wS_bad, wS_if, wS_ret, wS_retN, wS_expr, wS_asg, wS_tg, wS_par, wS_app, wS_put, wS_fldX, wO_bName0, wO_bNameS, wO_bTup, wO_bNil, wO_bCons, wO_fillN, wO_fillS, wO_fillP, putBack_some, putBack_none, putBack_nil, slotSh_s, slotSh_sh, slotSh_ct, slotSh_rc, wipe_nil, wipe_cons, back_nil, back_cons, rest_s, rest_n, rest_sh, rest_ct, rest_rc, add_ii, sub_ii, cmp_ii, eq_ii, ne_ii, is_nn, is_tn, is_ln, is_in, is_bn, is_bb, isn_nn, isn_tn, isn_ln, isn_in, len_l, len_t, int_i, int_b, abs_i, tup_l, tup_t, list_l, list_t, f1_ap, f2_ap, tru_b, tru_t, tru_l, tru_n, item_lstS, item_lstO, item_tupS, wO_map, wO_bind, isi_int_i, isi_int_b, isi_int_n, isi_int_t, isi_int_l, isi_int_s, isi_bool_i, isi_bool_b, isi_bool_n, isi_tl_t, isi_tl_l, isi_tl_i, isi_tl_n, isi_t_t, isi_t_l, isi_l_t, isi_l_l, slice_l, slice_t, shO_sh, blO_bl, blD_bl, intO_i, seq_l, seq_t, seq_f, ownL_l, two_ap, isSh_s, made_ok, toD_sh, toD_lst, mod_ii, mul_ii, div_ii, add_ll, add_tt, List.getElem?_cons_zero, List.getElem?_cons_succ, List.set_cons_zero, List.set_cons_succ, Option.join_some, Option.join_none, List.map_cons, List.map_nil, if_true, if_false, Bool.false_eq_true, reduceIte, Bool.true_or, Bool.or_true, Bool.false_or, Bool.true_and, Bool.and_true, Bool.false_and, Bool.and_false, true_and, and_true, Bool.not_true, Bool.not_false, decide_eq_true_eq, len0, len1, len2, len3, len4, len5, len6, abs2, pos2, wM_disp, wM_consP, isDk_dk, isDk_dt, toD_ct, Ct.toD]
        · have hne : neO (.lst ((clsL lv gs).map fun cs => .bl (satB x cs))) (.lst ((clsL lv gs).map fun cs => .bl (satB x cs))) = some (.sh (.bl false)) := neO_self (n := 1) (sh_lst fun d hd => by
            obtain ⟨_, _, rfl⟩ := List.mem_map.mp hd
            exact sh_bl) (by decide)
          have hin : inO true (.bl false) (.lst ((clsL lv gs).map fun cs => .bl (satB x cs))) = some (.sh (.bl (allS lv gs x))) := by
            have := notin_bls (bs := (clsL lv gs).map (satB x))
            rw [List.map_map, List.all_map] at this
            exact this
          have hsl : sliceD (bitsD x) none (some (lv : Int)) = some (.sh (bitsD (x.take lv))) := by
            unfold bitsD
            rw [slice_t, cut_upto (by rw [List.length_map]; omega), List.map_take]
          simp only [wO_some, wO_none, wO_ite, wM_ok, wM_bad, wM_pure, wM_bind, wM_map, wM_iteB, wM_iteM, wM_nameB, wM_nameS, wM_nameV, wM_nameM, wM_asSh, wM_cons, wM_consO, wM_consT, wM_consB, wM_tup, wM_lst, wM_opS, wM_opN, wM_bl, wM_andT, wM_orT, wM_if, wM_andV, wM_orV, wM_tru, wM_neg, wM_part, wM_slice, wM_call, wM_isi, wM_op1, wM_bO, wM_chain, wM_sub, wM_subN, wM_has, wM_callF, wM_make, wM_newK, wM_newT, wM_get1, wM_get2, wM_field, wM_seq, wM_rngA1, wM_rngA2, wM_enumL, wM_enumT, wM_zipL, wM_zipT, wS_seq, wS_next, wS_brk, wS_cont, wS_bad, wS_if, wS_ret, wS_retN, wS_expr, wS_asg, wS_tg, wS_par, wS_app, wS_put, wS_fldX, wO_bName0, wO_bNameS, wO_bTup, wO_bNil, wO_bCons, wO_fillN, wO_fillS, wO_fillP, putBack_some, putBack_none, putBack_nil, slotSh_s, slotSh_sh, slotSh_ct, slotSh_rc, wipe_nil, wipe_cons, back_nil, back_cons, rest_s, rest_n, rest_sh, rest_ct, rest_rc, add_ii, sub_ii, cmp_ii, eq_ii, ne_ii, is_nn, is_tn, is_ln, is_in, is_bn, is_bb, isn_nn, isn_tn, isn_ln, isn_in, len_l, len_t, int_i, int_b, abs_i, tup_l, tup_t, list_l, list_t, f1_ap, f2_ap, tru_b, tru_t, tru_l, tru_n, item_lstS, item_lstO, item_tupS, wO_map, wO_bind, isi_int_i, isi_int_b, isi_int_n, isi_int_t, isi_int_l, isi_int_s, isi_bool_i, isi_bool_b, isi_bool_n, isi_tl_t, isi_tl_l, isi_tl_i, isi_tl_n, isi_t_t, isi_t_l, isi_l_t, isi_l_l, slice_l, slice_t, shO_sh, blO_bl, blD_bl, intO_i, seq_l, seq_t, seq_f, ownL_l, two_ap, isSh_s, made_ok, toD_sh, toD_lst, mod_ii, mul_ii, div_ii, add_ll, add_tt, List.getElem?_cons_zero, List.getElem?_cons_succ, List.set_cons_zero, List.set_cons_succ, Option.join_some, Option.join_none, List.map_cons, List.map_nil, if_true, if_false, Bool.false_eq_true, reduceIte, Bool.true_or, Bool.or_true, Bool.false_or, Bool.true_and, Bool.and_true, Bool.false_and, Bool.and_false, true_and, and_true, Bool.not_true, Bool.not_false, decide_eq_true_eq, len0, len1, len2, len3, len4, len5, len6, abs2, pos2, wM_disp, wM_consP, isDk_dk, isDk_dt, toD_ct, Ct.toD, toD_lst, hne, hin]
          cases hs : allS lv gs x with
          | true =>
            have hone := (allS_one hg hx2 (by rw [hx1, hlen])).mp hs
            have hlk := hw.none hxp (by omega) hone
            have hle := hw.le
            have hkl : ks.length < lim := by show _ < 16777216; omega
            have h01 : 0 + 1 ≤ lim := by show _ ≤ 16777216; omega
            have hdk : isDk (.fd (.ct (.dt ks vs))) = true := rfl
            simp only [natD, wO_some, wO_none, wO_ite, wM_ok, wM_bad, wM_pure, wM_bind, wM_map, wM_iteB, wM_iteM, wM_nameB, wM_nameS, wM_nameV, wM_nameM, wM_asSh, wM_cons, wM_consO, wM_consT, wM_consB, wM_tup, wM_lst, wM_opS, wM_opN, wM_bl, wM_andT, wM_orT, wM_if, wM_andV, wM_orV, wM_tru, wM_neg, wM_part, wM_slice, wM_call, wM_isi, wM_op1, wM_bO, wM_chain, wM_sub, wM_subN, wM_has, wM_callF, wM_make, wM_newK, wM_newT, wM_get1, wM_get2, wM_field, wM_seq, wM_rngA1, wM_rngA2, wM_enumL, wM_enumT, wM_zipL, wM_zipT, wS_seq, wS_next, wS_brk, wS_cont, wS_bad, wS_if, wS_ret, wS_retN, wS_expr, wS_asg, wS_tg, wS_par, wS_app, wS_put, wS_fldX, wO_bName0, wO_bNameS, wO_bTup, wO_bNil, wO_bCons, wO_fillN, wO_fillS, wO_fillP, putBack_some, putBack_none, putBack_nil, slotSh_s, slotSh_sh, slotSh_ct, slotSh_rc, wipe_nil, wipe_cons, back_nil, back_cons, rest_s, rest_n, rest_sh, rest_ct, rest_rc, add_ii, sub_ii, cmp_ii, eq_ii, ne_ii, is_nn, is_tn, is_ln, is_in, is_bn, is_bb, isn_nn, isn_tn, isn_ln, isn_in, len_l, len_t, int_i, int_b, abs_i, tup_l, tup_t, list_l, list_t, f1_ap, f2_ap, tru_b, tru_t, tru_l, tru_n, item_lstS, item_lstO, item_tupS, wO_map, wO_bind, isi_int_i, isi_int_b, isi_int_n, isi_int_t, isi_int_l, isi_int_s, isi_bool_i, isi_bool_b, isi_bool_n, isi_tl_t, isi_tl_l, isi_tl_i, isi_tl_n, isi_t_t, isi_t_l, isi_l_t, isi_l_l, slice_l, slice_t, shO_sh, blO_bl, blD_bl, intO_i, seq_l, seq_t, seq_f, ownL_l, two_ap, isSh_s, made_ok, toD_sh, toD_lst, mod_ii, mul_ii, div_ii, add_ll, add_tt, List.getElem?_cons_zero, List.getElem?_cons_succ, List.set_cons_zero, List.set_cons_succ, Option.join_some, Option.join_none, List.map_cons, List.map_nil, if_true, if_false, Bool.false_eq_true, reduceIte, Bool.true_or, Bool.or_true, Bool.false_or, Bool.true_and, Bool.and_true, Bool.false_and, Bool.and_false, true_and, and_true, Bool.not_true, Bool.not_false, decide_eq_true_eq, len0, len1, len2, len3, len4, len5, len6, abs2, pos2, wM_disp, wM_consP, isDk_dk, isDk_dt, toD_ct, Ct.toD, toD_lst, hsl, hdk, get_dt, hlk, Option.getD_none, List.length_nil, List.length_cons, h01, List.nil_append, put_dt, hkl]
            exact ⟨_, _, _, _, rfl, hw.put hxp (by omega) hone⟩
          | false =>
            simp only [wO_some, wO_none, wO_ite, wM_ok, wM_bad, wM_pure, wM_bind, wM_map, wM_iteB, wM_iteM, wM_nameB, wM_nameS, wM_nameV, wM_nameM, wM_asSh, wM_cons, wM_consO, wM_consT, wM_consB, wM_tup, wM_lst, wM_opS, wM_opN, wM_bl, wM_andT, wM_orT, wM_if, wM_andV, wM_orV, wM_tru, wM_neg, wM_part, wM_slice, wM_call, wM_isi, wM_op1, wM_bO, wM_chain, wM_sub, wM_subN, wM_has, wM_callF, wM_make, wM_newK, wM_newT, wM_get1, wM_get2, wM_field, wM_seq, wM_rngA1, wM_rngA2, wM_enumL, wM_enumT, wM_zipL, wM_zipT, wS_seq, wS_next, wS_brk, wS_cont, wS_bad, wS_if, wS_ret, wS_retN, wS_expr, wS_asg, wS_tg, wS_par, wS_app, wS_put, wS_fldX, wO_bName0, wO_bNameS, wO_bTup, wO_bNil, wO_bCons, wO_fillN, wO_fillS, wO_fillP, putBack_some, putBack_none, putBack_nil, slotSh_s, slotSh_sh, slotSh_ct, slotSh_rc, wipe_nil, wipe_cons, back_nil, back_cons, rest_s, rest_n, rest_sh, rest_ct, rest_rc, add_ii, sub_ii, cmp_ii, eq_ii, ne_ii, is_nn, is_tn, is_ln, is_in, is_bn, is_bb, isn_nn, isn_tn, isn_ln, isn_in, len_l, len_t, int_i, int_b, abs_i, tup_l, tup_t, list_l, list_t, f1_ap, f2_ap, tru_b, tru_t, tru_l, tru_n, item_lstS, item_lstO, item_tupS, wO_map, wO_bind, isi_int_i, isi_int_b, isi_int_n, isi_int_t, isi_int_l, isi_int_s, isi_bool_i, isi_bool_b, isi_bool_n, isi_tl_t, isi_tl_l, isi_tl_i, isi_tl_n, isi_t_t, isi_t_l, isi_l_t, isi_l_l, slice_l, slice_t, shO_sh, blO_bl, blD_bl, intO_i, seq_l, seq_t, seq_f, ownL_l, two_ap, isSh_s, made_ok, toD_sh, toD_lst, mod_ii, mul_ii, div_ii, add_ll, add_tt, List.getElem?_cons_zero, List.getElem?_cons_succ, List.set_cons_zero, List.set_cons_succ, Option.join_some, Option.join_none, List.map_cons, List.map_nil, if_true, if_false, Bool.false_eq_true, reduceIte, Bool.true_or, Bool.or_true, Bool.false_or, Bool.true_and, Bool.and_true, Bool.false_and, Bool.and_false, true_and, and_true, Bool.not_true, Bool.not_false, decide_eq_true_eq, len0, len1, len2, len3, len4, len5, len6, abs2, pos2, wM_disp, wM_consP, isDk_dk, isDk_dt, toD_ct, Ct.toD]
            exact ⟨_, _, _, _, rfl, hw.skip fun z => by
              have := (allS_one hg hx2 (by rw [hx1, hlen])).mpr z
              rw [hs] at this
              cases this⟩
    · rintro _ ⟨ks, vs, a, b, rfl, hw⟩
      refine wS_forL bitsD (rowsL lv) (fun pre ρ => ∃ a b, ρ = [some (.sh (.fz (ns.map D.int))), some p3, some (.sh (.int (0 + (k : Int)))), some (.sh (natD lv)), some (.sh (.tup (gs.map gD))), some (.sh (.tup ((clsL lv gs).map cD))), some (.sh (.tup ((clsL lv gs).map cD))), some (.fd (.ct (.dt ks vs))), a, b, none, none, none, none, none, none]) ?_ ?_ ?_
      · simp only [natD, wO_some, wO_none, wO_ite, wM_ok, wM_bad, wM_pure, wM_bind, wM_map, wM_iteB, wM_iteM, wM_nameB, wM_nameS, wM_nameV, wM_nameM, wM_asSh, wM_cons, wM_consO, wM_consT, wM_consB, wM_tup, wM_lst, wM_opS, wM_opN, wM_bl, wM_andT, wM_orT, wM_if, wM_andV, wM_orV, wM_tru, wM_neg, wM_part, wM_slice, wM_call, wM_isi, wM_op1, wM_bO, wM_chain, wM_sub, wM_subN, wM_has, wM_callF, wM_make, wM_newK, wM_newT, wM_get1, wM_get2, wM_field, wM_seq, wM_rngA1, wM_rngA2, wM_enumL, wM_enumT, wM_zipL, wM_zipT, wS_seq, wS_next, wS_brk, wS_cont, wS_bad, wS_if, wS_ret, wS_retN, wS_expr, wS_asg, wS_tg, wS_par, wS_app, wS_put, wS_fldX, wO_bName0, wO_bNameS, wO_bTup, wO_bNil, wO_bCons, wO_fillN, wO_fillS, wO_fillP, putBack_some, putBack_none, putBack_nil, slotSh_s, slotSh_sh, slotSh_ct, slotSh_rc, wipe_nil, wipe_cons, back_nil, back_cons, rest_s, rest_n, rest_sh, rest_ct, rest_rc, add_ii, sub_ii, cmp_ii, eq_ii, ne_ii, is_nn, is_tn, is_ln, is_in, is_bn, is_bb, isn_nn, isn_tn, isn_ln, isn_in, len_l, len_t, int_i, int_b, abs_i, tup_l, tup_t, list_l, list_t, f1_ap, f2_ap, tru_b, tru_t, tru_l, tru_n, item_lstS, item_lstO, item_tupS, wO_map, wO_bind, isi_int_i, isi_int_b, isi_int_n, isi_int_t, isi_int_l, isi_int_s, isi_bool_i, isi_bool_b, isi_bool_n, isi_tl_t, isi_tl_l, isi_tl_i, isi_tl_n, isi_t_t, isi_t_l, isi_l_t, isi_l_l, slice_l, slice_t, shO_sh, blO_bl, blD_bl, intO_i, seq_l, seq_t, seq_f, ownL_l, two_ap, isSh_s, made_ok, toD_sh, toD_lst, mod_ii, mul_ii, div_ii, add_ll, add_tt, List.getElem?_cons_zero, List.getElem?_cons_succ, List.set_cons_zero, List.set_cons_succ, Option.join_some, Option.join_none, List.map_cons, List.map_nil, if_true, if_false, Bool.false_eq_true, reduceIte, Bool.true_or, Bool.or_true, Bool.false_or, Bool.true_and, Bool.and_true, Bool.false_and, Bool.and_false, true_and, and_true, Bool.not_true, Bool.not_false, decide_eq_true_eq, len0, len1, len2, len3, len4, len5, len6, abs2, pos2, wM_disp, wM_consP, isDk_dk, isDk_dt, toD_ct, Ct.toD]
        refine rows_w (n := lv) (by omega) ?_
        simp only [wO_some, wO_none, wO_ite, wM_ok, wM_bad, wM_pure, wM_bind, wM_map, wM_iteB, wM_iteM, wM_nameB, wM_nameS, wM_nameV, wM_nameM, wM_asSh, wM_cons, wM_consO, wM_consT, wM_consB, wM_tup, wM_lst, wM_opS, wM_opN, wM_bl, wM_andT, wM_orT, wM_if, wM_andV, wM_orV, wM_tru, wM_neg, wM_part, wM_slice, wM_call, wM_isi, wM_op1, wM_bO, wM_chain, wM_sub, wM_subN, wM_has, wM_callF, wM_make, wM_newK, wM_newT, wM_get1, wM_get2, wM_field, wM_seq, wM_rngA1, wM_rngA2, wM_enumL, wM_enumT, wM_zipL, wM_zipT, wS_seq, wS_next, wS_brk, wS_cont, wS_bad, wS_if, wS_ret, wS_retN, wS_expr, wS_asg, wS_tg, wS_par, wS_app, wS_put, wS_fldX, wO_bName0, wO_bNameS, wO_bTup, wO_bNil, wO_bCons, wO_fillN, wO_fillS, wO_fillP, putBack_some, putBack_none, putBack_nil, slotSh_s, slotSh_sh, slotSh_ct, slotSh_rc, wipe_nil, wipe_cons, back_nil, back_cons, rest_s, rest_n, rest_sh, rest_ct, rest_rc, add_ii, sub_ii, cmp_ii, eq_ii, ne_ii, is_nn, is_tn, is_ln, is_in, is_bn, is_bb, isn_nn, isn_tn, isn_ln, isn_in, len_l, len_t, int_i, int_b, abs_i, tup_l, tup_t, list_l, list_t, f1_ap, f2_ap, tru_b, tru_t, tru_l, tru_n, item_lstS, item_lstO, item_tupS, wO_map, wO_bind, isi_int_i, isi_int_b, isi_int_n, isi_int_t, isi_int_l, isi_int_s, isi_bool_i, isi_bool_b, isi_bool_n, isi_tl_t, isi_tl_l, isi_tl_i, isi_tl_n, isi_t_t, isi_t_l, isi_l_t, isi_l_l, slice_l, slice_t, shO_sh, blO_bl, blD_bl, intO_i, seq_l, seq_t, seq_f, ownL_l, two_ap, isSh_s, made_ok, toD_sh, toD_lst, mod_ii, mul_ii, div_ii, add_ll, add_tt, List.getElem?_cons_zero, List.getElem?_cons_succ, List.set_cons_zero, List.set_cons_succ, Option.join_some, Option.join_none, List.map_cons, List.map_nil, if_true, if_false, Bool.false_eq_true, reduceIte, Bool.true_or, Bool.or_true, Bool.false_or, Bool.true_and, Bool.and_true, Bool.false_and, Bool.and_false, true_and, and_true, Bool.not_true, Bool.not_false, decide_eq_true_eq, len0, len1, len2, len3, len4, len5, len6, abs2, pos2, wM_disp, wM_consP, isDk_dk, isDk_dt, toD_ct, Ct.toD, toD_lst, seq_l]
        exact ⟨_, _, rfl⟩
      · rintro pre x post _ ee ⟨a, b, rfl⟩
        have hx : x ∈ rowsL lv := by rw [ee]; simp
        obtain ⟨hx1, hx2⟩ := rowsL_mem.mp hx
        have hdk : isDk (.fd (.ct (.dt ks vs))) = true := rfl
        have hlk : lookK ks vs (keyL x) = some (.lst [bitsD (oneR gs x)]) := by
          rw [hw.at_ x hx1, if_pos]
          exact rowsL_mem.mpr ⟨by rw [oneR_len, hx1, hlen], oneR_bit hx2⟩
        simp only [wO_some, wO_none, wO_ite, wM_ok, wM_bad, wM_pure, wM_bind, wM_map, wM_iteB, wM_iteM, wM_nameB, wM_nameS, wM_nameV, wM_nameM, wM_asSh, wM_cons, wM_consO, wM_consT, wM_consB, wM_tup, wM_lst, wM_opS, wM_opN, wM_bl, wM_andT, wM_orT, wM_if, wM_andV, wM_orV, wM_tru, wM_neg, wM_part, wM_slice, wM_call, wM_isi, wM_op1, wM_bO, wM_chain, wM_sub, wM_subN, wM_has, wM_callF, wM_make, wM_newK, wM_newT, wM_get1, wM_get2, wM_field, wM_seq, wM_rngA1, wM_rngA2, wM_enumL, wM_enumT, wM_zipL, wM_zipT, wS_seq, wS_next, wS_brk, wS_cont, wS_bad, wS_if, wS_ret, wS_retN, wS_expr, wS_asg, wS_tg, wS_par, wS_app, wS_put, wS_fldX, wO_bName0, wO_bNameS, wO_bTup, wO_bNil, wO_bCons, wO_fillN, wO_fillS, wO_fillP, putBack_some, putBack_none, putBack_nil, slotSh_s, slotSh_sh, slotSh_ct, slotSh_rc, wipe_nil, wipe_cons, back_nil, back_cons, rest_s, rest_n, rest_sh, rest_ct, rest_rc, add_ii, sub_ii, cmp_ii, eq_ii, ne_ii, is_nn, is_tn, is_ln, is_in, is_bn, is_bb, isn_nn, isn_tn, isn_ln, isn_in, len_l, len_t, int_i, int_b, abs_i, tup_l, tup_t, list_l, list_t, f1_ap, f2_ap, tru_b, tru_t, tru_l, tru_n, item_lstS, item_lstO, item_tupS, wO_map, wO_bind, isi_int_i, isi_int_b, isi_int_n, isi_int_t, isi_int_l, isi_int_s, isi_bool_i, isi_bool_b, isi_bool_n, isi_tl_t, isi_tl_l, isi_tl_i, isi_tl_n, isi_t_t, isi_t_l, isi_l_t, isi_l_l, slice_l, slice_t, shO_sh, blO_bl, blD_bl, intO_i, seq_l, seq_t, seq_f, ownL_l, two_ap, isSh_s, made_ok, toD_sh, toD_lst, mod_ii, mul_ii, div_ii, add_ll, add_tt, List.getElem?_cons_zero, List.getElem?_cons_succ, List.set_cons_zero, List.set_cons_succ, Option.join_some, Option.join_none, List.map_cons, List.map_nil, if_true, if_false, Bool.false_eq_true, reduceIte, Bool.true_or, Bool.or_true, Bool.false_or, Bool.true_and, Bool.and_true, Bool.false_and, Bool.and_false, true_and, and_true, Bool.not_true, Bool.not_false, decide_eq_true_eq, len0, len1, len2, len3, len4, len5, len6, abs2, pos2, wM_disp, wM_consP, isDk_dk, isDk_dt, toD_ct, Ct.toD, hdk, get_dt, hlk, Option.getD_some]
        refine values_w hg (by omega) (by omega) hx2 hx1 ?_
        have hc : cutL ((valsL gs x).map natD) (some 1) none = (oneR gs x).map natD := by
          have := cut_from (xs := (valsL gs x).map natD) (k := 1) (by rw [List.length_map, valsL_len]; omega)
          rw [← List.map_drop] at this
          exact this
        have hne : neO (.lst [bitsD (oneR gs x)]) (.lst [.tup ((oneR gs x).map natD)]) = some (.sh (.bl false)) := neO_self (n := 2) (sh_lst fun d hd => by
          obtain rfl := List.mem_singleton.mp hd
          exact sh_tup fun d hd => by
            obtain ⟨_, _, rfl⟩ := List.mem_map.mp hd
            exact sh_int) (by decide)
        simp only [wO_some, wO_none, wO_ite, wM_ok, wM_bad, wM_pure, wM_bind, wM_map, wM_iteB, wM_iteM, wM_nameB, wM_nameS, wM_nameV, wM_nameM, wM_asSh, wM_cons, wM_consO, wM_consT, wM_consB, wM_tup, wM_lst, wM_opS, wM_opN, wM_bl, wM_andT, wM_orT, wM_if, wM_andV, wM_orV, wM_tru, wM_neg, wM_part, wM_slice, wM_call, wM_isi, wM_op1, wM_bO, wM_chain, wM_sub, wM_subN, wM_has, wM_callF, wM_make, wM_newK, wM_newT, wM_get1, wM_get2, wM_field, wM_seq, wM_rngA1, wM_rngA2, wM_enumL, wM_enumT, wM_zipL, wM_zipT, wS_seq, wS_next, wS_brk, wS_cont, wS_bad, wS_if, wS_ret, wS_retN, wS_expr, wS_asg, wS_tg, wS_par, wS_app, wS_put, wS_fldX, wO_bName0, wO_bNameS, wO_bTup, wO_bNil, wO_bCons, wO_fillN, wO_fillS, wO_fillP, putBack_some, putBack_none, putBack_nil, slotSh_s, slotSh_sh, slotSh_ct, slotSh_rc, wipe_nil, wipe_cons, back_nil, back_cons, rest_s, rest_n, rest_sh, rest_ct, rest_rc, add_ii, sub_ii, cmp_ii, eq_ii, ne_ii, is_nn, is_tn, is_ln, is_in, is_bn, is_bb, isn_nn, isn_tn, isn_ln, isn_in, len_l, len_t, int_i, int_b, abs_i, tup_l, tup_t, list_l, list_t, f1_ap, f2_ap, tru_b, tru_t, tru_l, tru_n, item_lstS, item_lstO, item_tupS, wO_map, wO_bind, isi_int_i, isi_int_b, isi_int_n, isi_int_t, isi_int_l, isi_int_s, isi_bool_i, isi_bool_b, isi_bool_n, isi_tl_t, isi_tl_l, isi_tl_i, isi_tl_n, isi_t_t, isi_t_l, isi_l_t, isi_l_l, slice_l, slice_t, shO_sh, blO_bl, blD_bl, intO_i, seq_l, seq_t, seq_f, ownL_l, two_ap, isSh_s, made_ok, toD_sh, toD_lst, mod_ii, mul_ii, div_ii, add_ll, add_tt, List.getElem?_cons_zero, List.getElem?_cons_succ, List.set_cons_zero, List.set_cons_succ, Option.join_some, Option.join_none, List.map_cons, List.map_nil, if_true, if_false, Bool.false_eq_true, reduceIte, Bool.true_or, Bool.or_true, Bool.false_or, Bool.true_and, Bool.and_true, Bool.false_and, Bool.and_false, true_and, and_true, Bool.not_true, Bool.not_false, decide_eq_true_eq, len0, len1, len2, len3, len4, len5, len6, abs2, pos2, wM_disp, wM_consP, isDk_dk, isDk_dt, toD_ct, Ct.toD, toD_lst, hc, hne]
        exact ⟨_, _, rfl⟩
      · rintro _ ⟨a, b, rfl⟩
        exact ⟨_, _, _, _, _, _, _, _, _, rfl, hp3.mono (by omega)⟩
  · rintro _ ⟨p, a, b, c, d, e, f, g, h, rfl, hp⟩
    simp only [wO_some, wO_none, wO_ite, wM_ok, wM_bad, wM_pure, wM_bind, wM_map, wM_iteB, wM_iteM, wM_nameB, wM_nameS, wM_nameV, wM_nameM, wM_asSh, wM_cons, wM_consO, wM_consT, wM_consB, wM_tup, wM_lst, wM_opS, wM_opN, wM_bl, wM_andT, wM_orT, wM_if, wM_andV, wM_orV, wM_tru, wM_neg, wM_part, wM_slice, wM_call, wM_isi, wM_op1, wM_bO, wM_chain, wM_sub, wM_subN, wM_has, wM_callF, wM_make, wM_newK, wM_newT, wM_get1, wM_get2, wM_field, wM_seq, wM_rngA1, wM_rngA2, wM_enumL, wM_enumT, wM_zipL, wM_zipT, wS_seq, wS_next, wS_brk, wS_cont, wS_bad, wS_if, wS_ret, wS_retN, wS_expr, wS_asg, wS_tg, wS_par, wS_app, wS_put, wS_fldX, wO_bName0, wO_bNameS, wO_bTup, wO_bNil, wO_bCons, wO_fillN, wO_fillS, wO_fillP, putBack_some, putBack_none, putBack_nil, slotSh_s, slotSh_sh, slotSh_ct, slotSh_rc, wipe_nil, wipe_cons, back_nil, back_cons, rest_s, rest_n, rest_sh, rest_ct, rest_rc, add_ii, sub_ii, cmp_ii, eq_ii, ne_ii, is_nn, is_tn, is_ln, is_in, is_bn, is_bb, isn_nn, isn_tn, isn_ln, isn_in, len_l, len_t, int_i, int_b, abs_i, tup_l, tup_t, list_l, list_t, f1_ap, f2_ap, tru_b, tru_t, tru_l, tru_n, item_lstS, item_lstO, item_tupS, wO_map, wO_bind, isi_int_i, isi_int_b, isi_int_n, isi_int_t, isi_int_l, isi_int_s, isi_bool_i, isi_bool_b, isi_bool_n, isi_tl_t, isi_tl_l, isi_tl_i, isi_tl_n, isi_t_t, isi_t_l, isi_l_t, isi_l_l, slice_l, slice_t, shO_sh, blO_bl, blD_bl, intO_i, seq_l, seq_t, seq_f, ownL_l, two_ap, isSh_s, made_ok, toD_sh, toD_lst, mod_ii, mul_ii, div_ii, add_ll, add_tt, List.getElem?_cons_zero, List.getElem?_cons_succ, List.set_cons_zero, List.set_cons_succ, Option.join_some, Option.join_none, List.map_cons, List.map_nil, if_true, if_false, Bool.false_eq_true, reduceIte, Bool.true_or, Bool.or_true, Bool.false_or, Bool.true_and, Bool.and_true, Bool.false_and, Bool.and_false, true_and, and_true, Bool.not_true, Bool.not_false, decide_eq_true_eq, len0, len1, len2, len3, len4, len5, len6, abs2, pos2, wM_disp, wM_consP, isDk_dk, isDk_dt, toD_ct, Ct.toD]
    refine wS_forR 0 12 (fun k ρ => ∃ p a b c d e f g h i j l m, ρ = [some (.sh (.fz (ns.map D.int))), some p, a, b, c, d, e, f, g, h, i, j, l, m, none, none] ∧ PenB (28 + 100 * k) p) ?_ ?_ ?_
    · simp only [wO_some, wO_none, wO_ite, wM_ok, wM_bad, wM_pure, wM_bind, wM_map, wM_iteB, wM_iteM, wM_nameB, wM_nameS, wM_nameV, wM_nameM, wM_asSh, wM_cons, wM_consO, wM_consT, wM_consB, wM_tup, wM_lst, wM_opS, wM_opN, wM_bl, wM_andT, wM_orT, wM_if, wM_andV, wM_orV, wM_tru, wM_neg, wM_part, wM_slice, wM_call, wM_isi, wM_op1, wM_bO, wM_chain, wM_sub, wM_subN, wM_has, wM_callF, wM_make, wM_newK, wM_newT, wM_get1, wM_get2, wM_field, wM_seq, wM_rngA1, wM_rngA2, wM_enumL, wM_enumT, wM_zipL, wM_zipT, wS_seq, wS_next, wS_brk, wS_cont, wS_bad, wS_if, wS_ret, wS_retN, wS_expr, wS_asg, wS_tg, wS_par, wS_app, wS_put, wS_fldX, wO_bName0, wO_bNameS, wO_bTup, wO_bNil, wO_bCons, wO_fillN, wO_fillS, wO_fillP, putBack_some, putBack_none, putBack_nil, slotSh_s, slotSh_sh, slotSh_ct, slotSh_rc, wipe_nil, wipe_cons, back_nil, back_cons, rest_s, rest_n, rest_sh, rest_ct, rest_rc, add_ii, sub_ii, cmp_ii, eq_ii, ne_ii, is_nn, is_tn, is_ln, is_in, is_bn, is_bb, isn_nn, isn_tn, isn_ln, isn_in, len_l, len_t, int_i, int_b, abs_i, tup_l, tup_t, list_l, list_t, f1_ap, f2_ap, tru_b, tru_t, tru_l, tru_n, item_lstS, item_lstO, item_tupS, wO_map, wO_bind, isi_int_i, isi_int_b, isi_int_n, isi_int_t, isi_int_l, isi_int_s, isi_bool_i, isi_bool_b, isi_bool_n, isi_tl_t, isi_tl_l, isi_tl_i, isi_tl_n, isi_t_t, isi_t_l, isi_l_t, isi_l_l, slice_l, slice_t, shO_sh, blO_bl, blD_bl, intO_i, seq_l, seq_t, seq_f, ownL_l, two_ap, isSh_s, made_ok, toD_sh, toD_lst, mod_ii, mul_ii, div_ii, add_ll, add_tt, List.getElem?_cons_zero, List.getElem?_cons_succ, List.set_cons_zero, List.set_cons_succ, Option.join_some, Option.join_none, List.map_cons, List.map_nil, if_true, if_false, Bool.false_eq_true, reduceIte, Bool.true_or, Bool.or_true, Bool.false_or, Bool.true_and, Bool.and_true, Bool.false_and, Bool.and_false, true_and, and_true, Bool.not_true, Bool.not_false, decide_eq_true_eq, len0, len1, len2, len3, len4, len5, len6, abs2, pos2, wM_disp, wM_consP, isDk_dk, isDk_dt, toD_ct, Ct.toD]
      exact ⟨inR_nat (n := 12) (by omega), rfl, p, _, _, _, _, _, _, _, _, _, _, _, _, rfl, hp⟩
    · rintro k _ hk ⟨p, a, b, c, d, e, f, g, h, i, j, l, m, rfl, hp⟩
      simp only [wO_some, wO_none, wO_ite, wM_ok, wM_bad, wM_pure, wM_bind, wM_map, wM_iteB, wM_iteM, wM_nameB, wM_nameS, wM_nameV, wM_nameM, wM_asSh, wM_cons, wM_consO, wM_consT, wM_consB, wM_tup, wM_lst, wM_opS, wM_opN, wM_bl, wM_andT, wM_orT, wM_if, wM_andV, wM_orV, wM_tru, wM_neg, wM_part, wM_slice, wM_call, wM_isi, wM_op1, wM_bO, wM_chain, wM_sub, wM_subN, wM_has, wM_callF, wM_make, wM_newK, wM_newT, wM_get1, wM_get2, wM_field, wM_seq, wM_rngA1, wM_rngA2, wM_enumL, wM_enumT, wM_zipL, wM_zipT, wS_seq, wS_next, wS_brk, wS_cont, wS_bad, wS_if, wS_ret, wS_retN, wS_expr, wS_asg, wS_tg, wS_par, wS_app, wS_put, wS_fldX, wO_bName0, wO_bNameS, wO_bTup, wO_bNil, wO_bCons, wO_fillN, wO_fillS, wO_fillP, putBack_some, putBack_none, putBack_nil, slotSh_s, slotSh_sh, slotSh_ct, slotSh_rc, wipe_nil, wipe_cons, back_nil, back_cons, rest_s, rest_n, rest_sh, rest_ct, rest_rc, add_ii, sub_ii, cmp_ii, eq_ii, ne_ii, is_nn, is_tn, is_ln, is_in, is_bn, is_bb, isn_nn, isn_tn, isn_ln, isn_in, len_l, len_t, int_i, int_b, abs_i, tup_l, tup_t, list_l, list_t, f1_ap, f2_ap, tru_b, tru_t, tru_l, tru_n, item_lstS, item_lstO, item_tupS, wO_map, wO_bind, isi_int_i, isi_int_b, isi_int_n, isi_int_t, isi_int_l, isi_int_s, isi_bool_i, isi_bool_b, isi_bool_n, isi_tl_t, isi_tl_l, isi_tl_i, isi_tl_n, isi_t_t, isi_t_l, isi_l_t, isi_l_l, slice_l, slice_t, shO_sh, blO_bl, blD_bl, intO_i, seq_l, seq_t, seq_f, ownL_l, two_ap, isSh_s, made_ok, toD_sh, toD_lst, mod_ii, mul_ii, div_ii, add_ll, add_tt, List.getElem?_cons_zero, List.getElem?_cons_succ, List.set_cons_zero, List.set_cons_succ, Option.join_some, Option.join_none, List.map_cons, List.map_nil, if_true, if_false, Bool.false_eq_true, reduceIte, Bool.true_or, Bool.or_true, Bool.false_or, Bool.true_and, Bool.and_true, Bool.false_and, Bool.and_false, true_and, and_true, Bool.not_true, Bool.not_false, decide_eq_true_eq, len0, len1, len2, len3, len4, len5, len6, abs2, pos2, wM_disp, wM_consP, isDk_dk, isDk_dt, toD_ct, Ct.toD]
      refine drawB_w (many := 4) hp (by omega) (by omega) (by omega) fun r p1 hr hp1 => ?_
      have er : 2 + (r : Int) = ((2 + r : Nat) : Int) := by omega
      simp only [natD, wO_some, wO_none, wO_ite, wM_ok, wM_bad, wM_pure, wM_bind, wM_map, wM_iteB, wM_iteM, wM_nameB, wM_nameS, wM_nameV, wM_nameM, wM_asSh, wM_cons, wM_consO, wM_consT, wM_consB, wM_tup, wM_lst, wM_opS, wM_opN, wM_bl, wM_andT, wM_orT, wM_if, wM_andV, wM_orV, wM_tru, wM_neg, wM_part, wM_slice, wM_call, wM_isi, wM_op1, wM_bO, wM_chain, wM_sub, wM_subN, wM_has, wM_callF, wM_make, wM_newK, wM_newT, wM_get1, wM_get2, wM_field, wM_seq, wM_rngA1, wM_rngA2, wM_enumL, wM_enumT, wM_zipL, wM_zipT, wS_seq, wS_next, wS_brk, wS_cont, wS_bad, wS_if, wS_ret, wS_retN, wS_expr, wS_asg, wS_tg, wS_par, wS_app, wS_put, wS_fldX, wO_bName0, wO_bNameS, wO_bTup, wO_bNil, wO_bCons, wO_fillN, wO_fillS, wO_fillP, putBack_some, putBack_none, putBack_nil, slotSh_s, slotSh_sh, slotSh_ct, slotSh_rc, wipe_nil, wipe_cons, back_nil, back_cons, rest_s, rest_n, rest_sh, rest_ct, rest_rc, add_ii, sub_ii, cmp_ii, eq_ii, ne_ii, is_nn, is_tn, is_ln, is_in, is_bn, is_bb, isn_nn, isn_tn, isn_ln, isn_in, len_l, len_t, int_i, int_b, abs_i, tup_l, tup_t, list_l, list_t, f1_ap, f2_ap, tru_b, tru_t, tru_l, tru_n, item_lstS, item_lstO, item_tupS, wO_map, wO_bind, isi_int_i, isi_int_b, isi_int_n, isi_int_t, isi_int_l, isi_int_s, isi_bool_i, isi_bool_b, isi_bool_n, isi_tl_t, isi_tl_l, isi_tl_i, isi_tl_n, isi_t_t, isi_t_l, isi_l_t, isi_l_l, slice_l, slice_t, shO_sh, blO_bl, blD_bl, intO_i, seq_l, seq_t, seq_f, ownL_l, two_ap, isSh_s, made_ok, toD_sh, toD_lst, mod_ii, mul_ii, div_ii, add_ll, add_tt, List.getElem?_cons_zero, List.getElem?_cons_succ, List.set_cons_zero, List.set_cons_succ, Option.join_some, Option.join_none, List.map_cons, List.map_nil, if_true, if_false, Bool.false_eq_true, reduceIte, Bool.true_or, Bool.or_true, Bool.false_or, Bool.true_and, Bool.and_true, Bool.false_and, Bool.and_false, true_and, and_true, Bool.not_true, Bool.not_false, decide_eq_true_eq, len0, len1, len2, len3, len4, len5, len6, abs2, pos2, wM_disp, wM_consP, isDk_dk, isDk_dt, toD_ct, Ct.toD, hp.sl, er]
      refine drawB_w (many := 8) hp1 (by omega) (by omega) (by omega) fun mn p2 hmn hp2 => ?_
      simp only [natD, wO_some, wO_none, wO_ite, wM_ok, wM_bad, wM_pure, wM_bind, wM_map, wM_iteB, wM_iteM, wM_nameB, wM_nameS, wM_nameV, wM_nameM, wM_asSh, wM_cons, wM_consO, wM_consT, wM_consB, wM_tup, wM_lst, wM_opS, wM_opN, wM_bl, wM_andT, wM_orT, wM_if, wM_andV, wM_orV, wM_tru, wM_neg, wM_part, wM_slice, wM_call, wM_isi, wM_op1, wM_bO, wM_chain, wM_sub, wM_subN, wM_has, wM_callF, wM_make, wM_newK, wM_newT, wM_get1, wM_get2, wM_field, wM_seq, wM_rngA1, wM_rngA2, wM_enumL, wM_enumT, wM_zipL, wM_zipT, wS_seq, wS_next, wS_brk, wS_cont, wS_bad, wS_if, wS_ret, wS_retN, wS_expr, wS_asg, wS_tg, wS_par, wS_app, wS_put, wS_fldX, wO_bName0, wO_bNameS, wO_bTup, wO_bNil, wO_bCons, wO_fillN, wO_fillS, wO_fillP, putBack_some, putBack_none, putBack_nil, slotSh_s, slotSh_sh, slotSh_ct, slotSh_rc, wipe_nil, wipe_cons, back_nil, back_cons, rest_s, rest_n, rest_sh, rest_ct, rest_rc, add_ii, sub_ii, cmp_ii, eq_ii, ne_ii, is_nn, is_tn, is_ln, is_in, is_bn, is_bb, isn_nn, isn_tn, isn_ln, isn_in, len_l, len_t, int_i, int_b, abs_i, tup_l, tup_t, list_l, list_t, f1_ap, f2_ap, tru_b, tru_t, tru_l, tru_n, item_lstS, item_lstO, item_tupS, wO_map, wO_bind, isi_int_i, isi_int_b, isi_int_n, isi_int_t, isi_int_l, isi_int_s, isi_bool_i, isi_bool_b, isi_bool_n, isi_tl_t, isi_tl_l, isi_tl_i, isi_tl_n, isi_t_t, isi_t_l, isi_l_t, isi_l_l, slice_l, slice_t, shO_sh, blO_bl, blD_bl, intO_i, seq_l, seq_t, seq_f, ownL_l, two_ap, isSh_s, made_ok, toD_sh, toD_lst, mod_ii, mul_ii, div_ii, add_ll, add_tt, List.getElem?_cons_zero, List.getElem?_cons_succ, List.set_cons_zero, List.set_cons_succ, Option.join_some, Option.join_none, List.map_cons, List.map_nil, if_true, if_false, Bool.false_eq_true, reduceIte, Bool.true_or, Bool.or_true, Bool.false_or, Bool.true_and, Bool.and_true, Bool.false_and, Bool.and_false, true_and, and_true, Bool.not_true, Bool.not_false, decide_eq_true_eq, len0, len1, len2, len3, len4, len5, len6, abs2, pos2, wM_disp, wM_consP, isDk_dk, isDk_dt, toD_ct, Ct.toD, hp1.sl]
      refine literals_w (nodes := 2 + r) (many := mn) hp2 (by omega) (by omega) (by omega) (by omega) fun ls p3 hls hll hp3 => ?_
      simp only [natD, wO_some, wO_none, wO_ite, wM_ok, wM_bad, wM_pure, wM_bind, wM_map, wM_iteB, wM_iteM, wM_nameB, wM_nameS, wM_nameV, wM_nameM, wM_asSh, wM_cons, wM_consO, wM_consT, wM_consB, wM_tup, wM_lst, wM_opS, wM_opN, wM_bl, wM_andT, wM_orT, wM_if, wM_andV, wM_orV, wM_tru, wM_neg, wM_part, wM_slice, wM_call, wM_isi, wM_op1, wM_bO, wM_chain, wM_sub, wM_subN, wM_has, wM_callF, wM_make, wM_newK, wM_newT, wM_get1, wM_get2, wM_field, wM_seq, wM_rngA1, wM_rngA2, wM_enumL, wM_enumT, wM_zipL, wM_zipT, wS_seq, wS_next, wS_brk, wS_cont, wS_bad, wS_if, wS_ret, wS_retN, wS_expr, wS_asg, wS_tg, wS_par, wS_app, wS_put, wS_fldX, wO_bName0, wO_bNameS, wO_bTup, wO_bNil, wO_bCons, wO_fillN, wO_fillS, wO_fillP, putBack_some, putBack_none, putBack_nil, slotSh_s, slotSh_sh, slotSh_ct, slotSh_rc, wipe_nil, wipe_cons, back_nil, back_cons, rest_s, rest_n, rest_sh, rest_ct, rest_rc, add_ii, sub_ii, cmp_ii, eq_ii, ne_ii, is_nn, is_tn, is_ln, is_in, is_bn, is_bb, isn_nn, isn_tn, isn_ln, isn_in, len_l, len_t, int_i, int_b, abs_i, tup_l, tup_t, list_l, list_t, f1_ap, f2_ap, tru_b, tru_t, tru_l, tru_n, item_lstS, item_lstO, item_tupS, wO_map, wO_bind, isi_int_i, isi_int_b, isi_int_n, isi_int_t, isi_int_l, isi_int_s, isi_bool_i, isi_bool_b, isi_bool_n, isi_tl_t, isi_tl_l, isi_tl_i, isi_tl_n, isi_t_t, isi_t_l, isi_l_t, isi_l_l, slice_l, slice_t, shO_sh, blO_bl, blD_bl, intO_i, seq_l, seq_t, seq_f, ownL_l, two_ap, isSh_s, made_ok, toD_sh, toD_lst, mod_ii, mul_ii, div_ii, add_ll, add_tt, List.getElem?_cons_zero, List.getElem?_cons_succ, List.set_cons_zero, List.set_cons_succ, Option.join_some, Option.join_none, List.map_cons, List.map_nil, if_true, if_false, Bool.false_eq_true, reduceIte, Bool.true_or, Bool.or_true, Bool.false_or, Bool.true_and, Bool.and_true, Bool.false_and, Bool.and_false, true_and, and_true, Bool.not_true, Bool.not_false, decide_eq_true_eq, len0, len1, len2, len3, len4, len5, len6, abs2, pos2, wM_disp, wM_consP, isDk_dk, isDk_dt, toD_ct, Ct.toD, hp2.sl]
      have hlb : ∀ l ∈ ls, l < 1000000 := fun l h => by have := hls l h; omega
      refine own_clause_w (o := .sh (.tup (ls.map natD))) rfl (.inl rfl) (by omega) hlb fun o' ho' => ?_
      simp only [natD, wO_some, wO_none, wO_ite, wM_ok, wM_bad, wM_pure, wM_bind, wM_map, wM_iteB, wM_iteM, wM_nameB, wM_nameS, wM_nameV, wM_nameM, wM_asSh, wM_cons, wM_consO, wM_consT, wM_consB, wM_tup, wM_lst, wM_opS, wM_opN, wM_bl, wM_andT, wM_orT, wM_if, wM_andV, wM_orV, wM_tru, wM_neg, wM_part, wM_slice, wM_call, wM_isi, wM_op1, wM_bO, wM_chain, wM_sub, wM_subN, wM_has, wM_callF, wM_make, wM_newK, wM_newT, wM_get1, wM_get2, wM_field, wM_seq, wM_rngA1, wM_rngA2, wM_enumL, wM_enumT, wM_zipL, wM_zipT, wS_seq, wS_next, wS_brk, wS_cont, wS_bad, wS_if, wS_ret, wS_retN, wS_expr, wS_asg, wS_tg, wS_par, wS_app, wS_put, wS_fldX, wO_bName0, wO_bNameS, wO_bTup, wO_bNil, wO_bCons, wO_fillN, wO_fillS, wO_fillP, putBack_some, putBack_none, putBack_nil, slotSh_s, slotSh_sh, slotSh_ct, slotSh_rc, wipe_nil, wipe_cons, back_nil, back_cons, rest_s, rest_n, rest_sh, rest_ct, rest_rc, add_ii, sub_ii, cmp_ii, eq_ii, ne_ii, is_nn, is_tn, is_ln, is_in, is_bn, is_bb, isn_nn, isn_tn, isn_ln, isn_in, len_l, len_t, int_i, int_b, abs_i, tup_l, tup_t, list_l, list_t, f1_ap, f2_ap, tru_b, tru_t, tru_l, tru_n, item_lstS, item_lstO, item_tupS, wO_map, wO_bind, isi_int_i, isi_int_b, isi_int_n, isi_int_t, isi_int_l, isi_int_s, isi_bool_i, isi_bool_b, isi_bool_n, isi_tl_t, isi_tl_l, isi_tl_i, isi_tl_n, isi_t_t, isi_t_l, isi_l_t, isi_l_l, slice_l, slice_t, shO_sh, blO_bl, blD_bl, intO_i, seq_l, seq_t, seq_f, ownL_l, two_ap, isSh_s, made_ok, toD_sh, toD_lst, mod_ii, mul_ii, div_ii, add_ll, add_tt, List.getElem?_cons_zero, List.getElem?_cons_succ, List.set_cons_zero, List.set_cons_succ, Option.join_some, Option.join_none, List.map_cons, List.map_nil, if_true, if_false, Bool.false_eq_true, reduceIte, Bool.true_or, Bool.or_true, Bool.false_or, Bool.true_and, Bool.and_true, Bool.false_and, Bool.and_false, true_and, and_true, Bool.not_true, Bool.not_false, decide_eq_true_eq, len0, len1, len2, len3, len4, len5, len6, abs2, pos2, wM_disp, wM_consP, isDk_dk, isDk_dt, toD_ct, Ct.toD, len2]
      refine pickB_w hp3 (SeqO.own _) (by simp) (by show 2 ≤ lim; decide) (by omega) fun dd p4 hd hp4 => ?_
      have hrd : RowD dd ls := by
        rcases List.mem_cons.mp hd with rfl | hd
        · exact .inl rfl
        · obtain rfl := List.mem_singleton.mp hd
          exact .inr rfl
      simp only [natD, wO_some, wO_none, wO_ite, wM_ok, wM_bad, wM_pure, wM_bind, wM_map, wM_iteB, wM_iteM, wM_nameB, wM_nameS, wM_nameV, wM_nameM, wM_asSh, wM_cons, wM_consO, wM_consT, wM_consB, wM_tup, wM_lst, wM_opS, wM_opN, wM_bl, wM_andT, wM_orT, wM_if, wM_andV, wM_orV, wM_tru, wM_neg, wM_part, wM_slice, wM_call, wM_isi, wM_op1, wM_bO, wM_chain, wM_sub, wM_subN, wM_has, wM_callF, wM_make, wM_newK, wM_newT, wM_get1, wM_get2, wM_field, wM_seq, wM_rngA1, wM_rngA2, wM_enumL, wM_enumT, wM_zipL, wM_zipT, wS_seq, wS_next, wS_brk, wS_cont, wS_bad, wS_if, wS_ret, wS_retN, wS_expr, wS_asg, wS_tg, wS_par, wS_app, wS_put, wS_fldX, wO_bName0, wO_bNameS, wO_bTup, wO_bNil, wO_bCons, wO_fillN, wO_fillS, wO_fillP, putBack_some, putBack_none, putBack_nil, slotSh_s, slotSh_sh, slotSh_ct, slotSh_rc, wipe_nil, wipe_cons, back_nil, back_cons, rest_s, rest_n, rest_sh, rest_ct, rest_rc, add_ii, sub_ii, cmp_ii, eq_ii, ne_ii, is_nn, is_tn, is_ln, is_in, is_bn, is_bb, isn_nn, isn_tn, isn_ln, isn_in, len_l, len_t, int_i, int_b, abs_i, tup_l, tup_t, list_l, list_t, f1_ap, f2_ap, tru_b, tru_t, tru_l, tru_n, item_lstS, item_lstO, item_tupS, wO_map, wO_bind, isi_int_i, isi_int_b, isi_int_n, isi_int_t, isi_int_l, isi_int_s, isi_bool_i, isi_bool_b, isi_bool_n, isi_tl_t, isi_tl_l, isi_tl_i, isi_tl_n, isi_t_t, isi_t_l, isi_l_t, isi_l_l, slice_l, slice_t, shO_sh, blO_bl, blD_bl, intO_i, seq_l, seq_t, seq_f, ownL_l, two_ap, isSh_s, made_ok, toD_sh, toD_lst, mod_ii, mul_ii, div_ii, add_ll, add_tt, List.getElem?_cons_zero, List.getElem?_cons_succ, List.set_cons_zero, List.set_cons_succ, Option.join_some, Option.join_none, List.map_cons, List.map_nil, if_true, if_false, Bool.false_eq_true, reduceIte, Bool.true_or, Bool.or_true, Bool.false_or, Bool.true_and, Bool.and_true, Bool.false_and, Bool.and_false, true_and, and_true, Bool.not_true, Bool.not_false, decide_eq_true_eq, len0, len1, len2, len3, len4, len5, len6, abs2, pos2, wM_disp, wM_consP, isDk_dk, isDk_dt, toD_ct, Ct.toD, hp3.sl]
      refine clause_of_w hrd (by omega) hlb ?_
      obtain ⟨xr, hxr⟩ : ∃ x, reprD (clO (clL ls)).toD = some (.sh (.str x)) := by
        cases hc : clL ls with
        | none => exact RB.ok (RB.non.mono (by decide) (Nat.le_refl _)) (by decide)
        | some cs =>
          obtain ⟨h1, h2⟩ := clL_ok (n := 10) hc fun l h => by have := hls l h; omega
          exact RB.ok ((rb_cls h1 (by decide) (k := 10) (by omega)).mono (by decide) (Nat.le_refl _)) (by decide)
      simp only [wO_some, wO_none, wO_ite, wM_ok, wM_bad, wM_pure, wM_bind, wM_map, wM_iteB, wM_iteM, wM_nameB, wM_nameS, wM_nameV, wM_nameM, wM_asSh, wM_cons, wM_consO, wM_consT, wM_consB, wM_tup, wM_lst, wM_opS, wM_opN, wM_bl, wM_andT, wM_orT, wM_if, wM_andV, wM_orV, wM_tru, wM_neg, wM_part, wM_slice, wM_call, wM_isi, wM_op1, wM_bO, wM_chain, wM_sub, wM_subN, wM_has, wM_callF, wM_make, wM_newK, wM_newT, wM_get1, wM_get2, wM_field, wM_seq, wM_rngA1, wM_rngA2, wM_enumL, wM_enumT, wM_zipL, wM_zipT, wS_seq, wS_next, wS_brk, wS_cont, wS_bad, wS_if, wS_ret, wS_retN, wS_expr, wS_asg, wS_tg, wS_par, wS_app, wS_put, wS_fldX, wO_bName0, wO_bNameS, wO_bTup, wO_bNil, wO_bCons, wO_fillN, wO_fillS, wO_fillP, putBack_some, putBack_none, putBack_nil, slotSh_s, slotSh_sh, slotSh_ct, slotSh_rc, wipe_nil, wipe_cons, back_nil, back_cons, rest_s, rest_n, rest_sh, rest_ct, rest_rc, add_ii, sub_ii, cmp_ii, eq_ii, ne_ii, is_nn, is_tn, is_ln, is_in, is_bn, is_bb, isn_nn, isn_tn, isn_ln, isn_in, len_l, len_t, int_i, int_b, abs_i, tup_l, tup_t, list_l, list_t, f1_ap, f2_ap, tru_b, tru_t, tru_l, tru_n, item_lstS, item_lstO, item_tupS, wO_map, wO_bind, isi_int_i, isi_int_b, isi_int_n, isi_int_t, isi_int_l, isi_int_s, isi_bool_i, isi_bool_b, isi_bool_n, isi_tl_t, isi_tl_l, isi_tl_i, isi_tl_n, isi_t_t, isi_t_l, isi_l_t, isi_l_l, slice_l, slice_t, shO_sh, blO_bl, blD_bl, intO_i, seq_l, seq_t, seq_f, ownL_l, two_ap, isSh_s, made_ok, toD_sh, toD_lst, mod_ii, mul_ii, div_ii, add_ll, add_tt, List.getElem?_cons_zero, List.getElem?_cons_succ, List.set_cons_zero, List.set_cons_succ, Option.join_some, Option.join_none, List.map_cons, List.map_nil, if_true, if_false, Bool.false_eq_true, reduceIte, Bool.true_or, Bool.or_true, Bool.false_or, Bool.true_and, Bool.and_true, Bool.false_and, Bool.and_false, true_and, and_true, Bool.not_true, Bool.not_false, decide_eq_true_eq, len0, len1, len2, len3, len4, len5, len6, abs2, pos2, wM_disp, wM_consP, isDk_dk, isDk_dt, toD_ct, Ct.toD, hxr, neS_self]
      cases hc : clL ls with
      | none =>
        simp only [clO, wO_some, wO_none, wO_ite, wM_ok, wM_bad, wM_pure, wM_bind, wM_map, wM_iteB, wM_iteM, wM_nameB, wM_nameS, wM_nameV, wM_nameM, wM_asSh, wM_cons, wM_consO, wM_consT, wM_consB, wM_tup, wM_lst, wM_opS, wM_opN, wM_bl, wM_andT, wM_orT, wM_if, wM_andV, wM_orV, wM_tru, wM_neg, wM_part, wM_slice, wM_call, wM_isi, wM_op1, wM_bO, wM_chain, wM_sub, wM_subN, wM_has, wM_callF, wM_make, wM_newK, wM_newT, wM_get1, wM_get2, wM_field, wM_seq, wM_rngA1, wM_rngA2, wM_enumL, wM_enumT, wM_zipL, wM_zipT, wS_seq, wS_next, wS_brk, wS_cont, wS_bad, wS_if, wS_ret, wS_retN, wS_expr, wS_asg, wS_tg, wS_par, wS_app, wS_put, wS_fldX, wO_bName0, wO_bNameS, wO_bTup, wO_bNil, wO_bCons, wO_fillN, wO_fillS, wO_fillP, putBack_some, putBack_none, putBack_nil, slotSh_s, slotSh_sh, slotSh_ct, slotSh_rc, wipe_nil, wipe_cons, back_nil, back_cons, rest_s, rest_n, rest_sh, rest_ct, rest_rc, add_ii, sub_ii, cmp_ii, eq_ii, ne_ii, is_nn, is_tn, is_ln, is_in, is_bn, is_bb, isn_nn, isn_tn, isn_ln, isn_in, len_l, len_t, int_i, int_b, abs_i, tup_l, tup_t, list_l, list_t, f1_ap, f2_ap, tru_b, tru_t, tru_l, tru_n, item_lstS, item_lstO, item_tupS, wO_map, wO_bind, isi_int_i, isi_int_b, isi_int_n, isi_int_t, isi_int_l, isi_int_s, isi_bool_i, isi_bool_b, isi_bool_n, isi_tl_t, isi_tl_l, isi_tl_i, isi_tl_n, isi_t_t, isi_t_l, isi_l_t, isi_l_l, slice_l, slice_t, shO_sh, blO_bl, blD_bl, intO_i, seq_l, seq_t, seq_f, ownL_l, two_ap, isSh_s, made_ok, toD_sh, toD_lst, mod_ii, mul_ii, div_ii, add_ll, add_tt, List.getElem?_cons_zero, List.getElem?_cons_succ, List.set_cons_zero, List.set_cons_succ, Option.join_some, Option.join_none, List.map_cons, List.map_nil, if_true, if_false, Bool.false_eq_true, reduceIte, Bool.true_or, Bool.or_true, Bool.false_or, Bool.true_and, Bool.and_true, Bool.false_and, Bool.and_false, true_and, and_true, Bool.not_true, Bool.not_false, decide_eq_true_eq, len0, len1, len2, len3, len4, len5, len6, abs2, pos2, wM_disp, wM_consP, isDk_dk, isDk_dt, toD_ct, Ct.toD]
        exact ⟨_, _, _, _, _, _, _, _, _, _, _, _, _, rfl, hp4.mono (by omega)⟩
      | some cs =>
        obtain ⟨h1, h2⟩ := clL_ok (n := 1 + r) hc fun l h => by have := hls l h; omega
        simp only [clO, wO_some, wO_none, wO_ite, wM_ok, wM_bad, wM_pure, wM_bind, wM_map, wM_iteB, wM_iteM, wM_nameB, wM_nameS, wM_nameV, wM_nameM, wM_asSh, wM_cons, wM_consO, wM_consT, wM_consB, wM_tup, wM_lst, wM_opS, wM_opN, wM_bl, wM_andT, wM_orT, wM_if, wM_andV, wM_orV, wM_tru, wM_neg, wM_part, wM_slice, wM_call, wM_isi, wM_op1, wM_bO, wM_chain, wM_sub, wM_subN, wM_has, wM_callF, wM_make, wM_newK, wM_newT, wM_get1, wM_get2, wM_field, wM_seq, wM_rngA1, wM_rngA2, wM_enumL, wM_enumT, wM_zipL, wM_zipT, wS_seq, wS_next, wS_brk, wS_cont, wS_bad, wS_if, wS_ret, wS_retN, wS_expr, wS_asg, wS_tg, wS_par, wS_app, wS_put, wS_fldX, wO_bName0, wO_bNameS, wO_bTup, wO_bNil, wO_bCons, wO_fillN, wO_fillS, wO_fillP, putBack_some, putBack_none, putBack_nil, slotSh_s, slotSh_sh, slotSh_ct, slotSh_rc, wipe_nil, wipe_cons, back_nil, back_cons, rest_s, rest_n, rest_sh, rest_ct, rest_rc, add_ii, sub_ii, cmp_ii, eq_ii, ne_ii, is_nn, is_tn, is_ln, is_in, is_bn, is_bb, isn_nn, isn_tn, isn_ln, isn_in, len_l, len_t, int_i, int_b, abs_i, tup_l, tup_t, list_l, list_t, f1_ap, f2_ap, tru_b, tru_t, tru_l, tru_n, item_lstS, item_lstO, item_tupS, wO_map, wO_bind, isi_int_i, isi_int_b, isi_int_n, isi_int_t, isi_int_l, isi_int_s, isi_bool_i, isi_bool_b, isi_bool_n, isi_tl_t, isi_tl_l, isi_tl_i, isi_tl_n, isi_t_t, isi_t_l, isi_l_t, isi_l_l, slice_l, slice_t, shO_sh, blO_bl, blD_bl, intO_i, seq_l, seq_t, seq_f, ownL_l, two_ap, isSh_s, made_ok, toD_sh, toD_lst, mod_ii, mul_ii, div_ii, add_ll, add_tt, List.getElem?_cons_zero, List.getElem?_cons_succ, List.set_cons_zero, List.set_cons_succ, Option.join_some, Option.join_none, List.map_cons, List.map_nil, if_true, if_false, Bool.false_eq_true, reduceIte, Bool.true_or, Bool.or_true, Bool.false_or, Bool.true_and, Bool.and_true, Bool.false_and, Bool.and_false, true_and, and_true, Bool.not_true, Bool.not_false, decide_eq_true_eq, len0, len1, len2, len3, len4, len5, len6, abs2, pos2, wM_disp, wM_consP, isDk_dk, isDk_dt, toD_ct, Ct.toD]
        refine wS_forL bitsD (rowsL (1 + r)) (fun pre ρ => ∃ p y m, ρ = [some (.sh (.fz (ns.map D.int))), some p, a, b, c, d, some (.sh (.tup (cs.map D.int))), f, y, h, some (.sh (.int (0 + (k : Int)))), some (.sh (natD (2 + r))), some (.sh (.tup (ls.map natD))), m, none, none] ∧ PenB (28 + 100 * k + 12 + 2 * pre.length) p) ?_ ?_ ?_
        · have e3 : ((2 + r : Nat) : Int) - 1 = ((1 + r : Nat) : Int) := by omega
          simp only [wO_some, wO_none, wO_ite, wM_ok, wM_bad, wM_pure, wM_bind, wM_map, wM_iteB, wM_iteM, wM_nameB, wM_nameS, wM_nameV, wM_nameM, wM_asSh, wM_cons, wM_consO, wM_consT, wM_consB, wM_tup, wM_lst, wM_opS, wM_opN, wM_bl, wM_andT, wM_orT, wM_if, wM_andV, wM_orV, wM_tru, wM_neg, wM_part, wM_slice, wM_call, wM_isi, wM_op1, wM_bO, wM_chain, wM_sub, wM_subN, wM_has, wM_callF, wM_make, wM_newK, wM_newT, wM_get1, wM_get2, wM_field, wM_seq, wM_rngA1, wM_rngA2, wM_enumL, wM_enumT, wM_zipL, wM_zipT, wS_seq, wS_next, wS_brk, wS_cont, wS_bad, wS_if, wS_ret, wS_retN, wS_expr, wS_asg, wS_tg, wS_par, wS_app, wS_put, wS_fldX, wO_bName0, wO_bNameS, wO_bTup, wO_bNil, wO_bCons, wO_fillN, wO_fillS, wO_fillP, putBack_some, putBack_none, putBack_nil, slotSh_s, slotSh_sh, slotSh_ct, slotSh_rc, wipe_nil, wipe_cons, back_nil, back_cons, rest_s, rest_n, rest_sh, rest_ct, rest_rc, add_ii, sub_ii, cmp_ii, eq_ii, ne_ii, is_nn, is_tn, is_ln, is_in, is_bn, is_bb, isn_nn, isn_tn, isn_ln, isn_in, len_l, len_t, int_i, int_b, abs_i, tup_l, tup_t, list_l, list_t, f1_ap, f2_ap, tru_b, tru_t, tru_l, tru_n, item_lstS, item_lstO, item_tupS, wO_map, wO_bind, isi_int_i, isi_int_b, isi_int_n, isi_int_t, isi_int_l, isi_int_s, isi_bool_i, isi_bool_b, isi_bool_n, isi_tl_t, isi_tl_l, isi_tl_i, isi_tl_n, isi_t_t, isi_t_l, isi_l_t, isi_l_l, slice_l, slice_t, shO_sh, blO_bl, blD_bl, intO_i, seq_l, seq_t, seq_f, ownL_l, two_ap, isSh_s, made_ok, toD_sh, toD_lst, mod_ii, mul_ii, div_ii, add_ll, add_tt, List.getElem?_cons_zero, List.getElem?_cons_succ, List.set_cons_zero, List.set_cons_succ, Option.join_some, Option.join_none, List.map_cons, List.map_nil, if_true, if_false, Bool.false_eq_true, reduceIte, Bool.true_or, Bool.or_true, Bool.false_or, Bool.true_and, Bool.and_true, Bool.false_and, Bool.and_false, true_and, and_true, Bool.not_true, Bool.not_false, decide_eq_true_eq, len0, len1, len2, len3, len4, len5, len6, abs2, pos2, wM_disp, wM_consP, isDk_dk, isDk_dt, toD_ct, Ct.toD, e3]
          refine rows_w (n := 1 + r) (by omega) ?_
          simp only [wO_some, wO_none, wO_ite, wM_ok, wM_bad, wM_pure, wM_bind, wM_map, wM_iteB, wM_iteM, wM_nameB, wM_nameS, wM_nameV, wM_nameM, wM_asSh, wM_cons, wM_consO, wM_consT, wM_consB, wM_tup, wM_lst, wM_opS, wM_opN, wM_bl, wM_andT, wM_orT, wM_if, wM_andV, wM_orV, wM_tru, wM_neg, wM_part, wM_slice, wM_call, wM_isi, wM_op1, wM_bO, wM_chain, wM_sub, wM_subN, wM_has, wM_callF, wM_make, wM_newK, wM_newT, wM_get1, wM_get2, wM_field, wM_seq, wM_rngA1, wM_rngA2, wM_enumL, wM_enumT, wM_zipL, wM_zipT, wS_seq, wS_next, wS_brk, wS_cont, wS_bad, wS_if, wS_ret, wS_retN, wS_expr, wS_asg, wS_tg, wS_par, wS_app, wS_put, wS_fldX, wO_bName0, wO_bNameS, wO_bTup, wO_bNil, wO_bCons, wO_fillN, wO_fillS, wO_fillP, putBack_some, putBack_none, putBack_nil, slotSh_s, slotSh_sh, slotSh_ct, slotSh_rc, wipe_nil, wipe_cons, back_nil, back_cons, rest_s, rest_n, rest_sh, rest_ct, rest_rc, add_ii, sub_ii, cmp_ii, eq_ii, ne_ii, is_nn, is_tn, is_ln, is_in, is_bn, is_bb, isn_nn, isn_tn, isn_ln, isn_in, len_l, len_t, int_i, int_b, abs_i, tup_l, tup_t, list_l, list_t, f1_ap, f2_ap, tru_b, tru_t, tru_l, tru_n, item_lstS, item_lstO, item_tupS, wO_map, wO_bind, isi_int_i, isi_int_b, isi_int_n, isi_int_t, isi_int_l, isi_int_s, isi_bool_i, isi_bool_b, isi_bool_n, isi_tl_t, isi_tl_l, isi_tl_i, isi_tl_n, isi_t_t, isi_t_l, isi_l_t, isi_l_l, slice_l, slice_t, shO_sh, blO_bl, blD_bl, intO_i, seq_l, seq_t, seq_f, ownL_l, two_ap, isSh_s, made_ok, toD_sh, toD_lst, mod_ii, mul_ii, div_ii, add_ll, add_tt, List.getElem?_cons_zero, List.getElem?_cons_succ, List.set_cons_zero, List.set_cons_succ, Option.join_some, Option.join_none, List.map_cons, List.map_nil, if_true, if_false, Bool.false_eq_true, reduceIte, Bool.true_or, Bool.or_true, Bool.false_or, Bool.true_and, Bool.and_true, Bool.false_and, Bool.and_false, true_and, and_true, Bool.not_true, Bool.not_false, decide_eq_true_eq, len0, len1, len2, len3, len4, len5, len6, abs2, pos2, wM_disp, wM_consP, isDk_dk, isDk_dt, toD_ct, Ct.toD, toD_lst, seq_l]
          exact ⟨p4, _, _, rfl, hp4.mono (by omega)⟩
        · rintro pre x post _ ee ⟨p, y, m, rfl, hp⟩
          have hx : x ∈ rowsL (1 + r) := by rw [ee]; simp
          obtain ⟨hx1, hx2⟩ := rowsL_mem.mp hx
          have hprel : pre.length ≤ 2 ^ (1 + r) := by rw [← rowsL_len, ee]; simp
          have hpow : 2 ^ (1 + r) ≤ 2 ^ 4 := Nat.pow_le_pow_right (by decide) (by omega)
          have h24 : (2 : Nat) ^ 4 = 16 := by decide
          simp only [bitsD, wO_some, wO_none, wO_ite, wM_ok, wM_bad, wM_pure, wM_bind, wM_map, wM_iteB, wM_iteM, wM_nameB, wM_nameS, wM_nameV, wM_nameM, wM_asSh, wM_cons, wM_consO, wM_consT, wM_consB, wM_tup, wM_lst, wM_opS, wM_opN, wM_bl, wM_andT, wM_orT, wM_if, wM_andV, wM_orV, wM_tru, wM_neg, wM_part, wM_slice, wM_call, wM_isi, wM_op1, wM_bO, wM_chain, wM_sub, wM_subN, wM_has, wM_callF, wM_make, wM_newK, wM_newT, wM_get1, wM_get2, wM_field, wM_seq, wM_rngA1, wM_rngA2, wM_enumL, wM_enumT, wM_zipL, wM_zipT, wS_seq, wS_next, wS_brk, wS_cont, wS_bad, wS_if, wS_ret, wS_retN, wS_expr, wS_asg, wS_tg, wS_par, wS_app, wS_put, wS_fldX, wO_bName0, wO_bNameS, wO_bTup, wO_bNil, wO_bCons, wO_fillN, wO_fillS, wO_fillP, putBack_some, putBack_none, putBack_nil, slotSh_s, slotSh_sh, slotSh_ct, slotSh_rc, wipe_nil, wipe_cons, back_nil, back_cons, rest_s, rest_n, rest_sh, rest_ct, rest_rc, add_ii, sub_ii, cmp_ii, eq_ii, ne_ii, is_nn, is_tn, is_ln, is_in, is_bn, is_bb, isn_nn, isn_tn, isn_ln, isn_in, len_l, len_t, int_i, int_b, abs_i, tup_l, tup_t, list_l, list_t, f1_ap, f2_ap, tru_b, tru_t, tru_l, tru_n, item_lstS, item_lstO, item_tupS, wO_map, wO_bind, isi_int_i, isi_int_b, isi_int_n, isi_int_t, isi_int_l, isi_int_s, isi_bool_i, isi_bool_b, isi_bool_n, isi_tl_t, isi_tl_l, isi_tl_i, isi_tl_n, isi_t_t, isi_t_l, isi_l_t, isi_l_l, slice_l, slice_t, shO_sh, blO_bl, blD_bl, intO_i, seq_l, seq_t, seq_f, ownL_l, two_ap, isSh_s, made_ok, toD_sh, toD_lst, mod_ii, mul_ii, div_ii, add_ll, add_tt, List.getElem?_cons_zero, List.getElem?_cons_succ, List.set_cons_zero, List.set_cons_succ, Option.join_some, Option.join_none, List.map_cons, List.map_nil, if_true, if_false, Bool.false_eq_true, reduceIte, Bool.true_or, Bool.or_true, Bool.false_or, Bool.true_and, Bool.and_true, Bool.false_and, Bool.and_false, true_and, and_true, Bool.not_true, Bool.not_false, decide_eq_true_eq, len0, len1, len2, len3, len4, len5, len6, abs2, pos2, wM_disp, wM_consP, isDk_dk, isDk_dt, toD_ct, Ct.toD]
          refine pickB_w hp (SeqO.own _) (by simp) (by show 2 ≤ lim; decide) (by omega) fun d1 p5 hd1 hp5 => ?_
          have hrd1 : RowO (.sh d1) x := by
            rcases List.mem_cons.mp hd1 with rfl | hd1
            · exact .inl rfl
            · obtain rfl := List.mem_singleton.mp hd1
              exact .inr (.inl rfl)
          simp only [wO_some, wO_none, wO_ite, wM_ok, wM_bad, wM_pure, wM_bind, wM_map, wM_iteB, wM_iteM, wM_nameB, wM_nameS, wM_nameV, wM_nameM, wM_asSh, wM_cons, wM_consO, wM_consT, wM_consB, wM_tup, wM_lst, wM_opS, wM_opN, wM_bl, wM_andT, wM_orT, wM_if, wM_andV, wM_orV, wM_tru, wM_neg, wM_part, wM_slice, wM_call, wM_isi, wM_op1, wM_bO, wM_chain, wM_sub, wM_subN, wM_has, wM_callF, wM_make, wM_newK, wM_newT, wM_get1, wM_get2, wM_field, wM_seq, wM_rngA1, wM_rngA2, wM_enumL, wM_enumT, wM_zipL, wM_zipT, wS_seq, wS_next, wS_brk, wS_cont, wS_bad, wS_if, wS_ret, wS_retN, wS_expr, wS_asg, wS_tg, wS_par, wS_app, wS_put, wS_fldX, wO_bName0, wO_bNameS, wO_bTup, wO_bNil, wO_bCons, wO_fillN, wO_fillS, wO_fillP, putBack_some, putBack_none, putBack_nil, slotSh_s, slotSh_sh, slotSh_ct, slotSh_rc, wipe_nil, wipe_cons, back_nil, back_cons, rest_s, rest_n, rest_sh, rest_ct, rest_rc, add_ii, sub_ii, cmp_ii, eq_ii, ne_ii, is_nn, is_tn, is_ln, is_in, is_bn, is_bb, isn_nn, isn_tn, isn_ln, isn_in, len_l, len_t, int_i, int_b, abs_i, tup_l, tup_t, list_l, list_t, f1_ap, f2_ap, tru_b, tru_t, tru_l, tru_n, item_lstS, item_lstO, item_tupS, wO_map, wO_bind, isi_int_i, isi_int_b, isi_int_n, isi_int_t, isi_int_l, isi_int_s, isi_bool_i, isi_bool_b, isi_bool_n, isi_tl_t, isi_tl_l, isi_tl_i, isi_tl_n, isi_t_t, isi_t_l, isi_l_t, isi_l_l, slice_l, slice_t, shO_sh, blO_bl, blD_bl, intO_i, seq_l, seq_t, seq_f, ownL_l, two_ap, isSh_s, made_ok, toD_sh, toD_lst, mod_ii, mul_ii, div_ii, add_ll, add_tt, List.getElem?_cons_zero, List.getElem?_cons_succ, List.set_cons_zero, List.set_cons_succ, Option.join_some, Option.join_none, List.map_cons, List.map_nil, if_true, if_false, Bool.false_eq_true, reduceIte, Bool.true_or, Bool.or_true, Bool.false_or, Bool.true_and, Bool.and_true, Bool.false_and, Bool.and_false, true_and, and_true, Bool.not_true, Bool.not_false, decide_eq_true_eq, len0, len1, len2, len3, len4, len5, len6, abs2, pos2, wM_disp, wM_consP, isDk_dk, isDk_dt, toD_ct, Ct.toD, hp.sl]
          refine pickB_w hp5 (SeqO.own _) (by simp) (by show 2 ≤ lim; decide) (by omega) fun d2 p6 hd2 hp6 => ?_
          have hrd2 : RowI d2 cs := by
            rcases List.mem_cons.mp hd2 with rfl | hd2
            · exact .inl rfl
            · obtain rfl := List.mem_singleton.mp hd2
              exact .inr rfl
          simp only [wO_some, wO_none, wO_ite, wM_ok, wM_bad, wM_pure, wM_bind, wM_map, wM_iteB, wM_iteM, wM_nameB, wM_nameS, wM_nameV, wM_nameM, wM_asSh, wM_cons, wM_consO, wM_consT, wM_consB, wM_tup, wM_lst, wM_opS, wM_opN, wM_bl, wM_andT, wM_orT, wM_if, wM_andV, wM_orV, wM_tru, wM_neg, wM_part, wM_slice, wM_call, wM_isi, wM_op1, wM_bO, wM_chain, wM_sub, wM_subN, wM_has, wM_callF, wM_make, wM_newK, wM_newT, wM_get1, wM_get2, wM_field, wM_seq, wM_rngA1, wM_rngA2, wM_enumL, wM_enumT, wM_zipL, wM_zipT, wS_seq, wS_next, wS_brk, wS_cont, wS_bad, wS_if, wS_ret, wS_retN, wS_expr, wS_asg, wS_tg, wS_par, wS_app, wS_put, wS_fldX, wO_bName0, wO_bNameS, wO_bTup, wO_bNil, wO_bCons, wO_fillN, wO_fillS, wO_fillP, putBack_some, putBack_none, putBack_nil, slotSh_s, slotSh_sh, slotSh_ct, slotSh_rc, wipe_nil, wipe_cons, back_nil, back_cons, rest_s, rest_n, rest_sh, rest_ct, rest_rc, add_ii, sub_ii, cmp_ii, eq_ii, ne_ii, is_nn, is_tn, is_ln, is_in, is_bn, is_bb, isn_nn, isn_tn, isn_ln, isn_in, len_l, len_t, int_i, int_b, abs_i, tup_l, tup_t, list_l, list_t, f1_ap, f2_ap, tru_b, tru_t, tru_l, tru_n, item_lstS, item_lstO, item_tupS, wO_map, wO_bind, isi_int_i, isi_int_b, isi_int_n, isi_int_t, isi_int_l, isi_int_s, isi_bool_i, isi_bool_b, isi_bool_n, isi_tl_t, isi_tl_l, isi_tl_i, isi_tl_n, isi_t_t, isi_t_l, isi_l_t, isi_l_l, slice_l, slice_t, shO_sh, blO_bl, blD_bl, intO_i, seq_l, seq_t, seq_f, ownL_l, two_ap, isSh_s, made_ok, toD_sh, toD_lst, mod_ii, mul_ii, div_ii, add_ll, add_tt, List.getElem?_cons_zero, List.getElem?_cons_succ, List.set_cons_zero, List.set_cons_succ, Option.join_some, Option.join_none, List.map_cons, List.map_nil, if_true, if_false, Bool.false_eq_true, reduceIte, Bool.true_or, Bool.or_true, Bool.false_or, Bool.true_and, Bool.and_true, Bool.false_and, Bool.and_false, true_and, and_true, Bool.not_true, Bool.not_false, decide_eq_true_eq, len0, len1, len2, len3, len4, len5, len6, abs2, pos2, wM_disp, wM_consP, isDk_dk, isDk_dt, toD_ct, Ct.toD, hp5.sl]
          refine satisfies_w hrd1 hrd2 (by omega) (by rw [hx1]; exact h1) (by omega) ?_
          obtain ⟨xb, hxb⟩ : ∃ z, reprD (.bl (satB x cs)) = some (.sh (.str z)) := RB.ok (RB.bl.mono (by decide) (Nat.le_refl _)) (by decide)
          simp only [wO_some, wO_none, wO_ite, wM_ok, wM_bad, wM_pure, wM_bind, wM_map, wM_iteB, wM_iteM, wM_nameB, wM_nameS, wM_nameV, wM_nameM, wM_asSh, wM_cons, wM_consO, wM_consT, wM_consB, wM_tup, wM_lst, wM_opS, wM_opN, wM_bl, wM_andT, wM_orT, wM_if, wM_andV, wM_orV, wM_tru, wM_neg, wM_part, wM_slice, wM_call, wM_isi, wM_op1, wM_bO, wM_chain, wM_sub, wM_subN, wM_has, wM_callF, wM_make, wM_newK, wM_newT, wM_get1, wM_get2, wM_field, wM_seq, wM_rngA1, wM_rngA2, wM_enumL, wM_enumT, wM_zipL, wM_zipT, wS_seq, wS_next, wS_brk, wS_cont, wS_bad, wS_if, wS_ret, wS_retN, wS_expr, wS_asg, wS_tg, wS_par, wS_app, wS_put, wS_fldX, wO_bName0, wO_bNameS, wO_bTup, wO_bNil, wO_bCons, wO_fillN, wO_fillS, wO_fillP, putBack_some, putBack_none, putBack_nil, slotSh_s, slotSh_sh, slotSh_ct, slotSh_rc, wipe_nil, wipe_cons, back_nil, back_cons, rest_s, rest_n, rest_sh, rest_ct, rest_rc, add_ii, sub_ii, cmp_ii, eq_ii, ne_ii, is_nn, is_tn, is_ln, is_in, is_bn, is_bb, isn_nn, isn_tn, isn_ln, isn_in, len_l, len_t, int_i, int_b, abs_i, tup_l, tup_t, list_l, list_t, f1_ap, f2_ap, tru_b, tru_t, tru_l, tru_n, item_lstS, item_lstO, item_tupS, wO_map, wO_bind, isi_int_i, isi_int_b, isi_int_n, isi_int_t, isi_int_l, isi_int_s, isi_bool_i, isi_bool_b, isi_bool_n, isi_tl_t, isi_tl_l, isi_tl_i, isi_tl_n, isi_t_t, isi_t_l, isi_l_t, isi_l_l, slice_l, slice_t, shO_sh, blO_bl, blD_bl, intO_i, seq_l, seq_t, seq_f, ownL_l, two_ap, isSh_s, made_ok, toD_sh, toD_lst, mod_ii, mul_ii, div_ii, add_ll, add_tt, List.getElem?_cons_zero, List.getElem?_cons_succ, List.set_cons_zero, List.set_cons_succ, Option.join_some, Option.join_none, List.map_cons, List.map_nil, if_true, if_false, Bool.false_eq_true, reduceIte, Bool.true_or, Bool.or_true, Bool.false_or, Bool.true_and, Bool.and_true, Bool.false_and, Bool.and_false, true_and, and_true, Bool.not_true, Bool.not_false, decide_eq_true_eq, len0, len1, len2, len3, len4, len5, len6, abs2, pos2, wM_disp, wM_consP, isDk_dk, isDk_dt, toD_ct, Ct.toD, hxb]
          refine keeps_w (a := .sh (.tup (x.map natD))) (bs := x) (cs := cs) (.inl rfl) (.inl rfl) (by omega) (by rw [hx1]; exact h1) (by omega) ?_
          simp only [wO_some, wO_none, wO_ite, wM_ok, wM_bad, wM_pure, wM_bind, wM_map, wM_iteB, wM_iteM, wM_nameB, wM_nameS, wM_nameV, wM_nameM, wM_asSh, wM_cons, wM_consO, wM_consT, wM_consB, wM_tup, wM_lst, wM_opS, wM_opN, wM_bl, wM_andT, wM_orT, wM_if, wM_andV, wM_orV, wM_tru, wM_neg, wM_part, wM_slice, wM_call, wM_isi, wM_op1, wM_bO, wM_chain, wM_sub, wM_subN, wM_has, wM_callF, wM_make, wM_newK, wM_newT, wM_get1, wM_get2, wM_field, wM_seq, wM_rngA1, wM_rngA2, wM_enumL, wM_enumT, wM_zipL, wM_zipT, wS_seq, wS_next, wS_brk, wS_cont, wS_bad, wS_if, wS_ret, wS_retN, wS_expr, wS_asg, wS_tg, wS_par, wS_app, wS_put, wS_fldX, wO_bName0, wO_bNameS, wO_bTup, wO_bNil, wO_bCons, wO_fillN, wO_fillS, wO_fillP, putBack_some, putBack_none, putBack_nil, slotSh_s, slotSh_sh, slotSh_ct, slotSh_rc, wipe_nil, wipe_cons, back_nil, back_cons, rest_s, rest_n, rest_sh, rest_ct, rest_rc, add_ii, sub_ii, cmp_ii, eq_ii, ne_ii, is_nn, is_tn, is_ln, is_in, is_bn, is_bb, isn_nn, isn_tn, isn_ln, isn_in, len_l, len_t, int_i, int_b, abs_i, tup_l, tup_t, list_l, list_t, f1_ap, f2_ap, tru_b, tru_t, tru_l, tru_n, item_lstS, item_lstO, item_tupS, wO_map, wO_bind, isi_int_i, isi_int_b, isi_int_n, isi_int_t, isi_int_l, isi_int_s, isi_bool_i, isi_bool_b, isi_bool_n, isi_tl_t, isi_tl_l, isi_tl_i, isi_tl_n, isi_t_t, isi_t_l, isi_l_t, isi_l_l, slice_l, slice_t, shO_sh, blO_bl, blD_bl, intO_i, seq_l, seq_t, seq_f, ownL_l, two_ap, isSh_s, made_ok, toD_sh, toD_lst, mod_ii, mul_ii, div_ii, add_ll, add_tt, List.getElem?_cons_zero, List.getElem?_cons_succ, List.set_cons_zero, List.set_cons_succ, Option.join_some, Option.join_none, List.map_cons, List.map_nil, if_true, if_false, Bool.false_eq_true, reduceIte, Bool.true_or, Bool.or_true, Bool.false_or, Bool.true_and, Bool.and_true, Bool.false_and, Bool.and_false, true_and, and_true, Bool.not_true, Bool.not_false, decide_eq_true_eq, len0, len1, len2, len3, len4, len5, len6, abs2, pos2, wM_disp, wM_consP, isDk_dk, isDk_dt, toD_ct, Ct.toD, hxb, neS_self]
          exact ⟨p6, _, _, rfl, hp6.mono (by rw [List.length_append]; simp only [List.length_cons, List.length_nil]; omega)⟩
        · rintro _ ⟨p, y, m, rfl, hp⟩
          have hpow : 2 ^ (1 + r) ≤ 2 ^ 4 := Nat.pow_le_pow_right (by decide) (by omega)
          have h24 : (2 : Nat) ^ 4 = 16 := by decide
          rw [rowsL_len] at hp
          exact ⟨_, _, _, _, _, _, _, _, _, _, _, _, _, rfl, hp.mono (by omega)⟩
    · rintro _ ⟨p, a, b, c, d, e, f, g, h, i, j, l, m, rfl, hp⟩
      simp only [wO_some, wO_none, wO_ite, wM_ok, wM_bad, wM_pure, wM_bind, wM_map, wM_iteB, wM_iteM, wM_nameB, wM_nameS, wM_nameV, wM_nameM, wM_asSh, wM_cons, wM_consO, wM_consT, wM_consB, wM_tup, wM_lst, wM_opS, wM_opN, wM_bl, wM_andT, wM_orT, wM_if, wM_andV, wM_orV, wM_tru, wM_neg, wM_part, wM_slice, wM_call, wM_isi, wM_op1, wM_bO, wM_chain, wM_sub, wM_subN, wM_has, wM_callF, wM_make, wM_newK, wM_newT, wM_get1, wM_get2, wM_field, wM_seq, wM_rngA1, wM_rngA2, wM_enumL, wM_enumT, wM_zipL, wM_zipT, wS_seq, wS_next, wS_brk, wS_cont, wS_bad, wS_if, wS_ret, wS_retN, wS_expr, wS_asg, wS_tg, wS_par, wS_app, wS_put, wS_fldX, wO_bName0, wO_bNameS, wO_bTup, wO_bNil, wO_bCons, wO_fillN, wO_fillS, wO_fillP, putBack_some, putBack_none, putBack_nil, slotSh_s, slotSh_sh, slotSh_ct, slotSh_rc, wipe_nil, wipe_cons, back_nil, back_cons, rest_s, rest_n, rest_sh, rest_ct, rest_rc, add_ii, sub_ii, cmp_ii, eq_ii, ne_ii, is_nn, is_tn, is_ln, is_in, is_bn, is_bb, isn_nn, isn_tn, isn_ln, isn_in, len_l, len_t, int_i, int_b, abs_i, tup_l, tup_t, list_l, list_t, f1_ap, f2_ap, tru_b, tru_t, tru_l, tru_n, item_lstS, item_lstO, item_tupS, wO_map, wO_bind, isi_int_i, isi_int_b, isi_int_n, isi_int_t, isi_int_l, isi_int_s, isi_bool_i, isi_bool_b, isi_bool_n, isi_tl_t, isi_tl_l, isi_tl_i, isi_tl_n, isi_t_t, isi_t_l, isi_l_t, isi_l_l, slice_l, slice_t, shO_sh, blO_bl, blD_bl, intO_i, seq_l, seq_t, seq_f, ownL_l, two_ap, isSh_s, made_ok, toD_sh, toD_lst, mod_ii, mul_ii, div_ii, add_ll, add_tt, List.getElem?_cons_zero, List.getElem?_cons_succ, List.set_cons_zero, List.set_cons_succ, Option.join_some, Option.join_none, List.map_cons, List.map_nil, if_true, if_false, Bool.false_eq_true, reduceIte, Bool.true_or, Bool.or_true, Bool.false_or, Bool.true_and, Bool.and_true, Bool.false_and, Bool.and_false, true_and, and_true, Bool.not_true, Bool.not_false, decide_eq_true_eq, len0, len1, len2, len3, len4, len5, len6, abs2, pos2, wM_disp, wM_consP, isDk_dk, isDk_dt, toD_ct, Ct.toD]
      refine satisfies_w (a := .sh (.tup [.int 0, .int 1])) (d := .tup []) (bs := [0, 1]) (cs := []) (.inl rfl) (.inl rfl) (by decide) (fun c h => by simp at h) (by decide) ?_
      have e1 : satB [0, 1] [] = false := rfl
      have e2 : satB [0, 1] [-1] = true := by decide
      simp only [wO_some, wO_none, wO_ite, wM_ok, wM_bad, wM_pure, wM_bind, wM_map, wM_iteB, wM_iteM, wM_nameB, wM_nameS, wM_nameV, wM_nameM, wM_asSh, wM_cons, wM_consO, wM_consT, wM_consB, wM_tup, wM_lst, wM_opS, wM_opN, wM_bl, wM_andT, wM_orT, wM_if, wM_andV, wM_orV, wM_tru, wM_neg, wM_part, wM_slice, wM_call, wM_isi, wM_op1, wM_bO, wM_chain, wM_sub, wM_subN, wM_has, wM_callF, wM_make, wM_newK, wM_newT, wM_get1, wM_get2, wM_field, wM_seq, wM_rngA1, wM_rngA2, wM_enumL, wM_enumT, wM_zipL, wM_zipT, wS_seq, wS_next, wS_brk, wS_cont, wS_bad, wS_if, wS_ret, wS_retN, wS_expr, wS_asg, wS_tg, wS_par, wS_app, wS_put, wS_fldX, wO_bName0, wO_bNameS, wO_bTup, wO_bNil, wO_bCons, wO_fillN, wO_fillS, wO_fillP, putBack_some, putBack_none, putBack_nil, slotSh_s, slotSh_sh, slotSh_ct, slotSh_rc, wipe_nil, wipe_cons, back_nil, back_cons, rest_s, rest_n, rest_sh, rest_ct, rest_rc, add_ii, sub_ii, cmp_ii, eq_ii, ne_ii, is_nn, is_tn, is_ln, is_in, is_bn, is_bb, isn_nn, isn_tn, isn_ln, isn_in, len_l, len_t, int_i, int_b, abs_i, tup_l, tup_t, list_l, list_t, f1_ap, f2_ap, tru_b, tru_t, tru_l, tru_n, item_lstS, item_lstO, item_tupS, wO_map, wO_bind, isi_int_i, isi_int_b, isi_int_n, isi_int_t, isi_int_l, isi_int_s, isi_bool_i, isi_bool_b, isi_bool_n, isi_tl_t, isi_tl_l, isi_tl_i, isi_tl_n, isi_t_t, isi_t_l, isi_l_t, isi_l_l, slice_l, slice_t, shO_sh, blO_bl, blD_bl, intO_i, seq_l, seq_t, seq_f, ownL_l, two_ap, isSh_s, made_ok, toD_sh, toD_lst, mod_ii, mul_ii, div_ii, add_ll, add_tt, List.getElem?_cons_zero, List.getElem?_cons_succ, List.set_cons_zero, List.set_cons_succ, Option.join_some, Option.join_none, List.map_cons, List.map_nil, if_true, if_false, Bool.false_eq_true, reduceIte, Bool.true_or, Bool.or_true, Bool.false_or, Bool.true_and, Bool.and_true, Bool.false_and, Bool.and_false, true_and, and_true, Bool.not_true, Bool.not_false, decide_eq_true_eq, len0, len1, len2, len3, len4, len5, len6, abs2, pos2, wM_disp, wM_consP, isDk_dk, isDk_dt, toD_ct, Ct.toD, e1]
      refine satisfies_w (a := .lst [.int 0, .int 1]) (d := .tup [.int (-1)]) (bs := [0, 1]) (cs := [-1]) (.inr (.inr rfl)) (.inl rfl) (by decide) (fun c h => by obtain rfl := List.mem_singleton.mp h; decide) (by decide) ?_
      simp only [wO_some, wO_none, wO_ite, wM_ok, wM_bad, wM_pure, wM_bind, wM_map, wM_iteB, wM_iteM, wM_nameB, wM_nameS, wM_nameV, wM_nameM, wM_asSh, wM_cons, wM_consO, wM_consT, wM_consB, wM_tup, wM_lst, wM_opS, wM_opN, wM_bl, wM_andT, wM_orT, wM_if, wM_andV, wM_orV, wM_tru, wM_neg, wM_part, wM_slice, wM_call, wM_isi, wM_op1, wM_bO, wM_chain, wM_sub, wM_subN, wM_has, wM_callF, wM_make, wM_newK, wM_newT, wM_get1, wM_get2, wM_field, wM_seq, wM_rngA1, wM_rngA2, wM_enumL, wM_enumT, wM_zipL, wM_zipT, wS_seq, wS_next, wS_brk, wS_cont, wS_bad, wS_if, wS_ret, wS_retN, wS_expr, wS_asg, wS_tg, wS_par, wS_app, wS_put, wS_fldX, wO_bName0, wO_bNameS, wO_bTup, wO_bNil, wO_bCons, wO_fillN, wO_fillS, wO_fillP, putBack_some, putBack_none, putBack_nil, slotSh_s, slotSh_sh, slotSh_ct, slotSh_rc, wipe_nil, wipe_cons, back_nil, back_cons, rest_s, rest_n, rest_sh, rest_ct, rest_rc, add_ii, sub_ii, cmp_ii, eq_ii, ne_ii, is_nn, is_tn, is_ln, is_in, is_bn, is_bb, isn_nn, isn_tn, isn_ln, isn_in, len_l, len_t, int_i, int_b, abs_i, tup_l, tup_t, list_l, list_t, f1_ap, f2_ap, tru_b, tru_t, tru_l, tru_n, item_lstS, item_lstO, item_tupS, wO_map, wO_bind, isi_int_i, isi_int_b, isi_int_n, isi_int_t, isi_int_l, isi_int_s, isi_bool_i, isi_bool_b, isi_bool_n, isi_tl_t, isi_tl_l, isi_tl_i, isi_tl_n, isi_t_t, isi_t_l, isi_l_t, isi_l_l, slice_l, slice_t, shO_sh, blO_bl, blD_bl, intO_i, seq_l, seq_t, seq_f, ownL_l, two_ap, isSh_s, made_ok, toD_sh, toD_lst, mod_ii, mul_ii, div_ii, add_ll, add_tt, List.getElem?_cons_zero, List.getElem?_cons_succ, List.set_cons_zero, List.set_cons_succ, Option.join_some, Option.join_none, List.map_cons, List.map_nil, if_true, if_false, Bool.false_eq_true, reduceIte, Bool.true_or, Bool.or_true, Bool.false_or, Bool.true_and, Bool.and_true, Bool.false_and, Bool.and_false, true_and, and_true, Bool.not_true, Bool.not_false, decide_eq_true_eq, len0, len1, len2, len3, len4, len5, len6, abs2, pos2, wM_disp, wM_consP, isDk_dk, isDk_dt, toD_ct, Ct.toD, e2]
      rfl
theorem truth : ∀ ns : List Int, ns.length ≤ 63 → ∃ fs, sem_law [.sh (.fz (ns.map D.int))] = .ok (.sh (.bl true)) fs := fun ns hl => by
  obtain ⟨r, fs, e, rfl⟩ := wM_get (law_w hl)
  exact ⟨fs, e⟩
end K20

end

section
set_option Elab.async false
set_option linter.all false
set_option maxRecDepth 100000
namespace K20
open PySem L2 RZ DL PyProof.Rows
theorem walk {l : PySem.W.OpenLaw} {q : Program} {loose : List Str} {XP : (Str → Option Value) → Heap → Prop} {YP : World → Heap → Prop} {d : DefRec} {K : Params → PySem.W.Frag} (hn : l.most = some 63) (hdf : d.params.defaults = [])
    (hY : ∀ (w : World) (h : Heap), YP w h → (K w.params).In h)
    (F : ∀ (w : World) (mg : Str → Option Value) (fa : Addr) (h : Heap), (K w.params).In h → h.Ns mainGlobals mg → mg d.name = some (.ref fa) →
      ∃ fd : FuncData, (∀ (s : Shared) (u : Value), BindsTo s fd ⟨[u], []⟩ [("_law_script", u)]) ∧ ∀ base : Heap, (K w.params).In base → base.Ns mainGlobals mg → FnG l.prog w (K w.params) mg base CX0 6 fa fd ["_law_script"] (DL.spLaw (K w.params))) :
    PySem.W.WalkO q loose XP YP l.row.toRowW d [] (fun f vs => PySem.call f vs) :=
  walk_ofG (n := 63) (k := 6) (x := "_law_script") (CX := fun _ => CX0) (sp := fun w => DL.spLaw (K w.params)) hn (by decide) hdf ⟨⟨rfl, by decide, by decide⟩, rfl⟩ hY F (fun _ _ a ns hl _ hS => ⟨a, ns, rfl, hS, hl, fun _ => rfl⟩) fun _ _ _ _ _ z => z
end K20
open PySem PySem.W PyProof.Rows
set_option maxRecDepth 100000 in
set_option maxHeartbeats 0 in
theorem PySem.Challenge.cw_everycycle_k20_whole_one_assignment_holds : PySem.Challenge.rw_everycycle_k20_whole_one_assignment.Holds := by
  w_on; o_law; k_head; (case hw => w_witness2)
  k_fill
  refine K20.walk (l := PySem.Challenge.rw_everycycle_k20_whole_one_assignment) rfl rfl (fun w h Y => PySem.W.kIn_of Y) ?F
  case F =>
    intro w mg fa h KX G hmg
    refine' K20.all_mk KX G hmg K20.truth ?aC0 ?pg0 ?hd0 ?po0 ?sa0 ?na0_0 ?na0_1 ?mk0 ?kc0 ?a0 ?l0 ?c0 ?k0 ?a1 ?l1 ?c1 ?k1 ?a2 ?l2 ?c2 ?k2 ?a3 ?l3 ?c3 ?k3 ?a4 ?l4 ?c4 ?k4 ?a5 ?l5 ?c5 ?k5 ?a6 ?l6 ?c6 ?k6 ?a7 ?l7 ?c7 ?k7 ?a8 ?l8 ?c8 ?k8 ?a9 ?l9 ?c9 ?k9 ?a10 ?l10 ?c10 ?k10 ?a11 ?l11 ?c11 ?k11 ?a12 ?i12 ?l12 ?c12 ?k12 ?a13 ?l13 ?c13 ?k13 ?a14 ?l14 ?c14 ?k14 ?a15 ?l15 ?c15 ?k15 ?a16 ?l16 ?c16 ?k16 ?a17 ?l17 ?c17 ?k17 ?a18 ?l18 ?c18 ?k18 ?a19 ?l19 ?c19 ?k19 ?a20 ?l20 ?c20 ?k20 ?a21 ?l21 ?c21 ?k21 ?y0 ?y1 ?y2 ?y3 ?y4 ?y5 ?y6 ?y7 ?y8 ?y9 ?y10 ?y11 ?y12 ?y13 ?y14 ?y15 ?y16 ?y17 ?y18 ?y19 ?y20 ?y21 ?y22 ?y23 ?z0 ?z1 ?z2 ?z3 ?z4 ?z5 ?z6 ?z7 ?z8 ?z9 ?z10 ?z11 ?z12 ?z13
    (case aC0 => k_is)
    (case pg0 => k_is)
    (case hd0 => k_is)
    (case po0 => k_is)
    (case sa0 => k_is)
    (case na0_0 => k_is)
    (case na0_1 => k_is)
    (case mk0 => k_is)
    (case kc0 => k_is)
    (case a0 => k_is)
    (case l0 => k_is)
    (case c0 => k_is)
    (case k0 => k_is)
    (case a1 => k_is)
    (case l1 => k_is)
    (case c1 => k_is)
    (case k1 => k_is)
    (case a2 => k_is)
    (case l2 => k_is)
    (case c2 => k_is)
    (case k2 => k_is)
    (case a3 => k_is)
    (case l3 => k_is)
    (case c3 => k_is)
    (case k3 => k_is)
    (case a4 => k_is)
    (case l4 => k_is)
    (case c4 => k_is)
    (case k4 => k_is)
    (case a5 => k_is)
    (case l5 => k_is)
    (case c5 => k_is)
    (case k5 => k_is)
    (case a6 => k_is)
    (case l6 => k_is)
    (case c6 => k_is)
    (case k6 => k_is)
    (case a7 => k_is)
    (case l7 => k_is)
    (case c7 => k_is)
    (case k7 => k_is)
    (case a8 => k_is)
    (case l8 => k_is)
    (case c8 => k_is)
    (case k8 => k_is)
    (case a9 => k_is)
    (case l9 => k_is)
    (case c9 => k_is)
    (case k9 => k_is)
    (case a10 => k_is)
    (case l10 => k_is)
    (case c10 => k_is)
    (case k10 => k_is)
    (case a11 => k_is)
    (case l11 => k_is)
    (case c11 => k_is)
    (case k11 => k_is)
    (case a12 => k_is)
    (case i12 => k_is)
    (case l12 => k_is)
    (case c12 => k_is)
    (case k12 => k_is)
    (case a13 => k_is)
    (case l13 => k_is)
    (case c13 => k_is)
    (case k13 => k_is)
    (case a14 => k_is)
    (case l14 => k_is)
    (case c14 => k_is)
    (case k14 => k_is)
    (case a15 => k_is)
    (case l15 => k_is)
    (case c15 => k_is)
    (case k15 => k_is)
    (case a16 => k_is)
    (case l16 => k_is)
    (case c16 => k_is)
    (case k16 => k_is)
    (case a17 => k_is)
    (case l17 => k_is)
    (case c17 => k_is)
    (case k17 => k_is)
    (case a18 => k_is)
    (case l18 => k_is)
    (case c18 => k_is)
    (case k18 => k_is)
    (case a19 => k_is)
    (case l19 => k_is)
    (case c19 => k_is)
    (case k19 => k_is)
    (case a20 => k_is)
    (case l20 => k_is)
    (case c20 => k_is)
    (case k20 => k_is)
    (case a21 => k_is)
    (case l21 => k_is)
    (case c21 => k_is)
    (case k21 => k_is)
    (case y0 => k_is)
    (case y1 => k_is)
    (case y2 => k_is)
    (case y3 => k_is)
    (case y4 => k_is)
    (case y5 => k_is)
    (case y6 => k_is)
    (case y7 => k_is)
    (case y8 => k_is)
    (case y9 => k_is)
    (case y10 => k_is)
    (case y11 => k_is)
    (case y12 => k_is)
    (case y13 => k_is)
    (case y14 => k_is)
    (case y15 => k_is)
    (case y16 => k_is)
    (case y17 => k_is)
    (case y18 => k_is)
    (case y19 => k_is)
    (case y20 => k_is)
    (case y21 => k_is)
    (case y22 => k_is)
    (case y23 => k_is)
    (case z0 => k_is)
    (case z1 => k_is)
    (case z2 => k_is)
    (case z3 => k_is)
    (case z4 => k_is)
    (case z5 => k_is)
    (case z6 => k_is)
    (case z7 => k_is)
    (case z8 => k_is)
    (case z9 => k_is)
    (case z10 => k_is)
    (case z11 => k_is)
    (case z12 => k_is)
    (case z13 => k_is)

end
