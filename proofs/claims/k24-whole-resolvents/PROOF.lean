import PyProof.Rows.All
import Wide.All
import OpenK.AllK
import Wide.FinOn
import HandS.ForMost
import HandS.TupAny
import HandS.Wide
import HandS.WideBits
import HandS.Deep
import HandS.TupLe
import HandS.Flow
import HandS.IsInst
import HandS.SortInts
import HandS.TupLen
import HandS.Comp
import HandS.Iter
import HandS.Zip
import HandS.List
import HandS.Dict
import HandS.Style
import HandS.Words
import HandS.Call
import HandS.SetFor
import HandS.Strs
import HandS.SortKw
import KE.KSortKey
import PyProof.Rows.RuleN_abs
import HandS.Ends
import PySem.Challenge.RW_everycycle_k24_whole_resolvents
section
set_option Elab.async false
set_option linter.all false
set_option maxRecDepth 100000
/-! DL, part A: data, owned containers, the state of a body, what a step may do. -/
namespace DL
open PySem L2

/-- data: what a value is worth, whatever the addresses -/
inductive D where
  | non | bl (b : Bool) | int (i : Int) | str (x : Str)
  | tup (xs : List D) | lst (xs : List D) | fz (xs : List D)
  | dk (ks : List Key) (vs : List D) | dt (ks : List (List Key)) (vs : List D)
  | ob (c : Str) (ns : List Str) (vs : List D)

/-- the written part and what the module's names hold -/
structure Kx where
  K : PySem.W.Frag
  mg : Str → Option Value

mutual
inductive Rep (κ : Kx) (F : Hp) : V → D → Prop
  | non : Rep κ F .non .non
  | bl (b : Bool) : Rep κ F (.bl b) (.bl b)
  | int (i : Int) : Rep κ F (.int i) (.int i)
  | str (x : Str) : Rep κ F (.str x) (.str x)
  | tup {a : Addr} {vs : List V} {ds : List D} : F a = some (.tup vs) → Reps κ F vs ds → Rep κ F (.ref a) (.tup ds)
  | lst {a : Addr} {vs : List V} {ds : List D} : F a = some (.lst vs) → Reps κ F vs ds → Rep κ F (.ref a) (.lst ds)
  | fz {a : Addr} {vs : List V} {ds : List D} : SqL κ.K F a vs → Reps κ F vs ds → Rep κ F (.ref a) (.fz ds)
  | dk {a : Addr} {kvs : List (Key × V)} {vs : List D} : F a = some (.dK kvs) → Reps κ F (kvs.map (·.2)) vs → Rep κ F (.ref a) (.dk (kvs.map (·.1)) vs)
  | dt {a : Addr} {kvs : List (List Key × V)} {vs : List D} : F a = some (.dT kvs) → Reps κ F (kvs.map (·.2)) vs → Rep κ F (.ref a) (.dt (kvs.map (·.1)) vs)
  | ob {a C dx : Addr} {c : Str} {fs : List (Str × V)} {vs : List D} : F a = some (.ins C dx fs) → κ.mg c = some (.ref C) → Reps κ F (fs.map (·.2)) vs → Rep κ F (.ref a) (.ob c (fs.map (·.1)) vs)
inductive Reps (κ : Kx) (F : Hp) : List V → List D → Prop
  | nil : Reps κ F [] []
  | cons {v : V} {vs : List V} {d : D} {ds : List D} : Rep κ F v d → Reps κ F vs ds → Reps κ F (v :: vs) (d :: ds)
end

theorem sqT_mono {K : PySem.W.Frag} {F F' : Hp} {a : Addr} {vs : List V} (e : Same F F') (h : SqT K F a vs) : SqT K F' a vs := by
  rcases h with (h | ⟨o, h⟩) | h
  · exact .inl (.inl (e _ _ h))
  · exact .inl (.inr ⟨o, e _ _ h⟩)
  · exact .inr h
mutual
theorem Rep.mono {κ : Kx} {F F' : Hp} (e : Same F F') : ∀ {v : V} {d : D}, Rep κ F v d → Rep κ F' v d
  | _, _, .non => .non
  | _, _, .bl b => .bl b
  | _, _, .int i => .int i
  | _, _, .str x => .str x
  | _, _, .tup h r => .tup (e _ _ h) (Reps.mono e r)
  | _, _, .lst h r => .lst (e _ _ h) (Reps.mono e r)
  | _, _, .fz h r => .fz (e.seq h) (Reps.mono e r)
  | _, _, .dk h r => .dk (e _ _ h) (Reps.mono e r)
  | _, _, .dt h r => .dt (e _ _ h) (Reps.mono e r)
  | _, _, .ob h m r => .ob (e _ _ h) m (Reps.mono e r)
theorem Reps.mono {κ : Kx} {F F' : Hp} (e : Same F F') : ∀ {vs : List V} {ds : List D}, Reps κ F vs ds → Reps κ F' vs ds
  | _, _, .nil => .nil
  | _, _, .cons h r => .cons (Rep.mono e h) (Reps.mono e r)
end
theorem Reps.length {κ : Kx} {F : Hp} : ∀ {vs : List V} {ds : List D}, Reps κ F vs ds → vs.length = ds.length
  | _, _, .nil => rfl
  | _, _, .cons _ r => by simp [Reps.length r]
theorem Reps.get {κ : Kx} {F : Hp} : ∀ {vs : List V} {ds : List D} (i : Nat) {d : D}, Reps κ F vs ds → ds[i]? = some d → ∃ v, vs[i]? = some v ∧ Rep κ F v d
  | _, _, _, _, .nil, e => by simp at e
  | _, _, 0, _, .cons h _, e => by simp at e; subst e; exact ⟨_, rfl, h⟩
  | _, _, i + 1, _, .cons _ r, e => by
    obtain ⟨v, h1, h2⟩ := Reps.get i r (by simpa using e)
    exact ⟨v, by simpa using h1, h2⟩
theorem Reps.getV {κ : Kx} {F : Hp} {vs : List V} {ds : List D} (i : Nat) {v : V} (r : Reps κ F vs ds) (e : vs[i]? = some v) : ∃ d, ds[i]? = some d ∧ Rep κ F v d := by
  have hl := r.length
  have hi : i < vs.length := by
    rcases Nat.lt_or_ge i vs.length with h | h
    · exact h
    · rw [List.getElem?_eq_none h] at e; cases e
  have hd : ds[i]? = some (ds[i]'(by omega)) := List.getElem?_eq_getElem (by omega)
  obtain ⟨v', h1, h2⟩ := r.get i hd
  rw [e] at h1; cases h1
  exact ⟨_, hd, h2⟩
theorem Reps.append {κ : Kx} {F : Hp} : ∀ {vs ws : List V} {ds es : List D}, Reps κ F vs ds → Reps κ F ws es → Reps κ F (vs ++ ws) (ds ++ es)
  | _, _, _, _, .nil, s => s
  | _, _, _, _, .cons h r, s => .cons h (Reps.append r s)
theorem Reps.take {κ : Kx} {F : Hp} : ∀ {vs : List V} {ds : List D} (n : Nat), Reps κ F vs ds → Reps κ F (vs.take n) (ds.take n)
  | _, _, 0, _ => .nil
  | _, _, _ + 1, .nil => .nil
  | _, _, n + 1, .cons h r => .cons h (Reps.take n r)
theorem Reps.drop {κ : Kx} {F : Hp} : ∀ {vs : List V} {ds : List D} (n : Nat), Reps κ F vs ds → Reps κ F (vs.drop n) (ds.drop n)
  | _, _, 0, r => r
  | _, _, _ + 1, .nil => .nil
  | _, _, n + 1, .cons _ r => Reps.drop n r
theorem Reps.set {κ : Kx} {F : Hp} {v : V} {d : D} (h : Rep κ F v d) : ∀ {vs : List V} {ds : List D} (i : Nat), Reps κ F vs ds → Reps κ F (vs.set i v) (ds.set i d)
  | _, _, _, .nil => .nil
  | _, _, 0, .cons _ r => .cons h r
  | _, _, i + 1, .cons q r => .cons q (Reps.set h i r)
theorem Reps.rev {κ : Kx} {F : Hp} {vs : List V} {ds : List D} (h : Reps κ F vs ds) : Reps κ F vs.reverse ds.reverse := by
  induction h using Reps.rec (motive_1 := fun _ _ _ => True) with
  | nil => exact .nil
  | cons h r _ ih => rw [List.reverse_cons, List.reverse_cons]; exact ih.append (.cons h .nil)
  | _ => trivial
theorem Reps.dropLast {κ : Kx} {F : Hp} {vs : List V} {ds : List D} (h : Reps κ F vs ds) : Reps κ F vs.dropLast ds.dropLast := by
  rw [List.dropLast_eq_take, List.dropLast_eq_take, h.length]
  exact h.take _

/-! ### owned containers -/
inductive Ct where
  | lst (ds : List D) | dk (ks : List Key) (vs : List D) | dt (ks : List (List Key)) (vs : List D)
inductive Fd where
  | sh (d : D) | ct (c : Ct)
/-- a record's head: an instance of a class, a dict -/
inductive Hd where
  | ob (c : Str) (ns : List Str) | dk (ks : List Key)
/-- what a slot holds -/
inductive O where
  | fd (f : Fd) | rc (h : Hd) (fs : List Fd)
abbrev O.sh (d : D) : O := .fd (.sh d)
abbrev O.lst (ds : List D) : O := .fd (.ct (.lst ds))
def Ct.toD : Ct → D
  | .lst ds => .lst ds
  | .dk ks vs => .dk ks vs
  | .dt ks vs => .dt ks vs
def Fd.toD : Fd → D
  | .sh d => d
  | .ct c => c.toD
def O.toD : O → D
  | .fd f => f.toD
  | .rc (.ob c ns) fs => .ob c ns (fs.map Fd.toD)
  | .rc (.dk ks) fs => .dk ks (fs.map Fd.toD)
def OwnC (κ : Kx) (F H : Hp) : Ct → Addr → Prop
  | .lst ds, a => ∃ vs, H a = some (.lst vs) ∧ Reps κ F vs ds
  | .dk ks ds, a => ∃ kvs, H a = some (.dK kvs) ∧ kvs.map (·.1) = ks ∧ Reps κ F (kvs.map (·.2)) ds
  | .dt ks ds, a => ∃ kvs, H a = some (.dT kvs) ∧ kvs.map (·.1) = ks ∧ Reps κ F (kvs.map (·.2)) ds
inductive OwnF (κ : Kx) (F H : Hp) : Fd → V → List Addr → Prop
  | sh {d : D} {v : V} : Rep κ F v d → OwnF κ F H (.sh d) v []
  | ct {c : Ct} {a : Addr} : OwnC κ F H c a → OwnF κ F H (.ct c) (.ref a) [a]
inductive OwnFs (κ : Kx) (F H : Hp) : List Fd → List V → List Addr → Prop
  | nil : OwnFs κ F H [] [] []
  | cons {f : Fd} {v : V} {S : List Addr} {fs : List Fd} {vs : List V} {T : List Addr} : OwnF κ F H f v S → OwnFs κ F H fs vs T → OwnFs κ F H (f :: fs) (v :: vs) (S ++ T)
inductive Own (κ : Kx) (F H : Hp) : O → V → List Addr → Prop
  | fd {f : Fd} {v : V} {S : List Addr} : OwnF κ F H f v S → Own κ F H (.fd f) v S
  | ob {a C dx : Addr} {c : Str} {fs : List (Str × V)} {gs : List Fd} {T : List Addr} : H a = some (.ins C dx fs) → κ.mg c = some (.ref C) → OwnFs κ F H gs (fs.map (·.2)) T →
      Own κ F H (.rc (.ob c (fs.map (·.1))) gs) (.ref a) (a :: T)
  | dk {a : Addr} {kvs : List (Key × V)} {gs : List Fd} {T : List Addr} : H a = some (.dK kvs) → OwnFs κ F H gs (kvs.map (·.2)) T →
      Own κ F H (.rc (.dk (kvs.map (·.1))) gs) (.ref a) (a :: T)

/-- what is owned stands as long as the owned cells stand and what is shared grows -/
theorem OwnC.mono {κ : Kx} {F F' H H' : Hp} {c : Ct} {a : Addr} (e : Same F F') (h : ∀ o, H a = some o → H' a = some o) (x : OwnC κ F H c a) : OwnC κ F' H' c a := by
  cases c with
  | lst ds => obtain ⟨vs, h1, h2⟩ := x; exact ⟨vs, h _ h1, h2.mono e⟩
  | dk ks ds => obtain ⟨vs, h1, h3, h2⟩ := x; exact ⟨vs, h _ h1, h3, h2.mono e⟩
  | dt ks ds => obtain ⟨vs, h1, h3, h2⟩ := x; exact ⟨vs, h _ h1, h3, h2.mono e⟩
theorem OwnF.mono {κ : Kx} {F F' H H' : Hp} {f : Fd} {v : V} {S : List Addr} (e : Same F F') (h : ∀ b ∈ S, ∀ o, H b = some o → H' b = some o) (x : OwnF κ F H f v S) : OwnF κ F' H' f v S := by
  cases x with
  | sh r => exact .sh (r.mono e)
  | ct r => exact .ct (r.mono e (h _ (by simp)))
theorem OwnFs.mono {κ : Kx} {F F' H H' : Hp} (e : Same F F') {fs : List Fd} {vs : List V} {S : List Addr} (x : OwnFs κ F H fs vs S) (h : ∀ b ∈ S, ∀ o, H b = some o → H' b = some o) : OwnFs κ F' H' fs vs S := by
  induction x with
  | nil => exact .nil
  | cons x _ ih => exact .cons (x.mono e fun b hb => h b (List.mem_append_left _ hb)) (ih fun b hb => h b (List.mem_append_right _ hb))
theorem Own.mono {κ : Kx} {F F' H H' : Hp} {o : O} {v : V} {S : List Addr} (e : Same F F') (h : ∀ b ∈ S, ∀ o, H b = some o → H' b = some o) (x : Own κ F H o v S) : Own κ F' H' o v S := by
  cases x with
  | fd r => exact .fd (r.mono e h)
  | ob r m q => exact .ob (h _ List.mem_cons_self _ r) m (q.mono e fun b hb => h b (List.mem_cons_of_mem _ hb))
  | dk r q => exact .dk (h _ List.mem_cons_self _ r) (q.mono e fun b hb => h b (List.mem_cons_of_mem _ hb))
/-- no tuple -/
def NotT : HO → Bool
  | .tup _ => false
  | .frz _ (.tup _) => false
  | _ => true
theorem NotT.ne {o : HO} (h : NotT o = true) (xs : List V) : o ≠ .tup xs := by
  rintro rfl; cases h
theorem NotT.nf {o : HO} (h : NotT o = true) (ob : Obj) (xs : List V) : o ≠ .frz ob (.tup xs) := by
  rintro rfl; cases h
/-- the owned cells stand in the heap -/
theorem OwnC.there {κ : Kx} {F H : Hp} {c : Ct} {a : Addr} (x : OwnC κ F H c a) : ∃ o, H a = some o ∧ NotT o = true := by
  cases c with
  | lst ds => obtain ⟨vs, h1, _⟩ := x; exact ⟨_, h1, rfl⟩
  | dk ks ds => obtain ⟨vs, h1, _⟩ := x; exact ⟨_, h1, rfl⟩
  | dt ks ds => obtain ⟨vs, h1, _⟩ := x; exact ⟨_, h1, rfl⟩
theorem OwnFs.there {κ : Kx} {F H : Hp} {fs : List Fd} {vs : List V} {S : List Addr} (x : OwnFs κ F H fs vs S) : ∀ b ∈ S, ∃ o, H b = some o ∧ NotT o = true := by
  induction x with
  | nil => intro b hb; simp at hb
  | cons x _ ih =>
    intro b hb
    rcases List.mem_append.mp hb with hb | hb
    · cases x with
      | sh _ => simp at hb
      | ct r =>
        rw [List.mem_singleton.mp hb]
        exact OwnC.there r
    · exact ih b hb
theorem Own.there {κ : Kx} {F H : Hp} {o : O} {v : V} {S : List Addr} (x : Own κ F H o v S) : ∀ b ∈ S, ∃ o, H b = some o ∧ NotT o = true := by
  cases x with
  | fd r =>
    cases r with
    | sh _ => intro b hb; simp at hb
    | ct r =>
      intro b hb
      rw [List.mem_singleton.mp hb]
      exact OwnC.there r
  | ob r m q =>
    intro b hb
    rcases List.mem_cons.mp hb with rfl | hb
    · exact ⟨_, r, rfl⟩
    · exact q.there b hb
  | dk r q =>
    intro b hb
    rcases List.mem_cons.mp hb with rfl | hb
    · exact ⟨_, r, rfl⟩
    · exact q.there b hb
/-- frozen: what was owned, as data -/
theorem OwnC.rep {κ : Kx} {F F' H : Hp} {c : Ct} {a : Addr} (x : OwnC κ F H c a) (e : Same F F') (h : F' a = H a) : Rep κ F' (.ref a) c.toD := by
  cases c with
  | lst ds => obtain ⟨vs, h1, h2⟩ := x; exact .lst (h.trans h1) (h2.mono e)
  | dk ks ds => obtain ⟨vs, h1, rfl, h2⟩ := x; exact .dk (h.trans h1) (h2.mono e)
  | dt ks ds => obtain ⟨vs, h1, rfl, h2⟩ := x; exact .dt (h.trans h1) (h2.mono e)
theorem OwnF.rep {κ : Kx} {F F' H : Hp} {f : Fd} {v : V} {S : List Addr} (x : OwnF κ F H f v S) (e : Same F F') (h : ∀ b ∈ S, F' b = H b) : Rep κ F' v f.toD := by
  cases x with
  | sh r => exact r.mono e
  | ct r => exact r.rep e (h _ (by simp))
theorem OwnFs.rep {κ : Kx} {F F' H : Hp} {fs : List Fd} {vs : List V} {S : List Addr} (x : OwnFs κ F H fs vs S) (e : Same F F') (h : ∀ b ∈ S, F' b = H b) : Reps κ F' vs (fs.map Fd.toD) := by
  induction x with
  | nil => exact .nil
  | cons x _ ih => exact .cons (x.rep e fun b hb => h b (List.mem_append_left _ hb)) (ih fun b hb => h b (List.mem_append_right _ hb))
theorem Own.rep {κ : Kx} {F F' H : Hp} {o : O} {v : V} {S : List Addr} (x : Own κ F H o v S) (e : Same F F') (h : ∀ b ∈ S, F' b = H b) : Rep κ F' v o.toD := by
  cases x with
  | fd r => exact r.rep e h
  | ob r m q => exact .ob ((h _ List.mem_cons_self).trans r) m (q.rep e fun b hb => h b (List.mem_cons_of_mem _ hb))
  | dk r q => exact .dk ((h _ List.mem_cons_self).trans r) (q.rep e fun b hb => h b (List.mem_cons_of_mem _ hb))
/-- to be read: over the whole heap -/
theorem Own.repH {κ : Kx} {F H : Hp} {o : O} {v : V} {S : List Addr} (x : Own κ F H o v S) (e : Same F H) : Rep κ H v o.toD := x.rep e fun _ _ => rfl

/-! ### the state of a body -/
abbrev Env := List (Option O)
inductive Ix where
  | s (i : Nat) | t (k : Nat)
  deriving DecidableEq
def atO (ρ : Env) (τ : List O) : Ix → Option O
  | .s i => (ρ[i]?).join
  | .t k => τ[k]?
def atV (σ : L2.St) (υ : List V) : Ix → Option V
  | .s i => (σ[i]?).join
  | .t k => υ[k]?
abbrev Fp := Ix → List Addr
structure G (κ : Kx) (A : Fp) (F H : Hp) (ρ : Env) (σ : L2.St) (τ : List O) (υ : List V) : Prop where
  len : ρ.length = σ.length
  lent : τ.length = υ.length
  own : ∀ x o, atO ρ τ x = some o → ∃ v, atV σ υ x = some v ∧ Own κ F H o v (A x)
  nd : ∀ x, (A x).Nodup
  dj : ∀ x y b, x ≠ y → b ∈ A x → b ∉ A y
  ff : ∀ x b, b ∈ A x → F b = none
  ft : ∀ x b, b ∈ A x → ∃ o, H b = some o ∧ NotT o = true
  fh : Same F H
/-- what a step does to all that stands -/
structure Fr (A : Fp) (F H : Hp) (A' : Fp) (F' H' : Hp) : Prop where
  keep : ∀ b o, H b = some o → (∀ x, b ∉ A x) → H' b = some o
  there : ∀ b, H b ≠ none → H' b ≠ none
  new : ∀ x b, b ∈ A' x → (∃ y, b ∈ A y) ∨ H b = none
  grow : Same F F'
  fnew : ∀ b, F' b ≠ none → F b ≠ none ∨ H b = none ∨ ∃ y, b ∈ A y
theorem Fr.refl {A : Fp} {F H : Hp} : Fr A F H A F H := ⟨fun _ _ h _ => h, fun _ h => h, fun x _ h => .inl ⟨x, h⟩, Same.refl _, fun _ h => .inl h⟩
theorem Fr.none {A A' : Fp} {F F' H H' : Hp} (x : Fr A F H A' F' H') {b : Addr} (h : H' b = none) : H b = none := by
  cases e : H b with
  | none => rfl
  | some o => exact absurd h (x.there b (by rw [e]; simp))
theorem Fr.trans {A A' A'' : Fp} {F F' F'' H H' H'' : Hp} (x : Fr A F H A' F' H') (y : Fr A' F' H' A'' F'' H'') : Fr A F H A'' F'' H'' where
  keep := fun b o h n => y.keep b o (x.keep b o h n) fun z hz => by
    rcases x.new z b hz with ⟨w, hw⟩ | e
    · exact n w hw
    · rw [h] at e; cases e
  there := fun b h => y.there b (x.there b h)
  new := fun z b h => by
    rcases y.new z b h with ⟨w, hw⟩ | e
    · exact x.new w b hw
    · exact .inr (x.none e)
  grow := x.grow.trans y.grow
  fnew := fun b h => by
    rcases y.fnew b h with e | e | ⟨w, hw⟩
    · exact x.fnew b e
    · exact .inr (.inl (x.none e))
    · rcases x.new w b hw with e | e
      · exact .inr (.inr e)
      · exact .inr (.inl e)
section
variable {κ : Kx} {A : Fp} {F H : Hp} {ρ : Env} {σ : L2.St} {τ : List O} {υ : List V}
theorem G.notin (g : G κ A F H ρ σ τ υ) {b : Addr} (h : H b = none) (x : Ix) : b ∉ A x := fun hb => by
  obtain ⟨o, e, _⟩ := g.ft x b hb
  rw [h] at e; cases e
/-- the heap grows by p, tracked as o, shared -/
theorem G.share (g : G κ A F H ρ σ τ υ) {p : Addr} (o : HO) (h : H p = none) : G κ A (upd F p o) (upd H p o) ρ σ τ υ ∧ Fr A F H A (upd F p o) (upd H p o) := by
  have hF : F p = none := by
    cases e : F p with
    | none => rfl
    | some u => rw [g.fh _ _ e] at h; cases h
  have eF : Same F (upd F p o) := fun b u e => by rw [upd_ne (ne_of_none e hF)]; exact e
  have eH : Same H (upd H p o) := fun b u e => by rw [upd_ne (ne_of_none e h)]; exact e
  refine ⟨⟨g.len, g.lent, fun x u e => ?_, g.nd, g.dj, fun x b hb => ?_, fun x b hb => ?_, fun b u e => ?_⟩, ⟨fun b u e _ => eH b u e, fun b e => ?_, fun x _ hb => .inl ⟨x, hb⟩, eF, fun b e => ?_⟩⟩
  · obtain ⟨v, h1, h2⟩ := g.own x u e
    exact ⟨v, h1, h2.mono eF fun b _ o e => eH b o e⟩
  · have : b ≠ p := fun z => g.notin h x (z ▸ hb)
    rw [upd_ne this]; exact g.ff x b hb
  · obtain ⟨u, e, n⟩ := g.ft x b hb
    exact ⟨u, eH b u e, n⟩
  · by_cases z : b = p
    · subst z; rw [upd_same] at e ⊢; exact e
    · rw [upd_ne z] at e ⊢; exact g.fh b u e
  · cases q : H b with
    | none => exact absurd q e
    | some u => rw [eH b u q]; simp
  · by_cases z : b = p
    · subst z; exact .inr (.inl h)
    · rw [upd_ne z] at e; exact .inl e
end
end DL

end

section
set_option Elab.async false
set_option linter.all false
set_option maxRecDepth 100000
/-! DL, part B: moves of the state; denotations and judgements. -/
namespace DL
open PySem L2

section
variable {κ : Kx} {A A' : Fp} {F F' H H' : Hp} {ρ ρ' : Env} {σ σ' : L2.St} {τ τ' : List O} {υ υ' : List V}

/-- a step that keeps all cells, and whose owned cells are among the old ones -/
theorem Fr.sub (h : ∀ x b, b ∈ A' x → ∃ y, b ∈ A y) : Fr A F H A' F H := ⟨fun _ _ e _ => e, fun _ e => e, fun x b hb => .inl (h x b hb), Same.refl _, fun _ e => .inl e⟩

/-- the owned things stand at other places -/
theorem G.re (g : G κ A F H ρ σ τ υ) (f : Ix → Option Ix) (len : ρ'.length = σ'.length) (lent : τ'.length = υ'.length)
    (hA : ∀ x, A' x = match f x with | some y => A y | none => []) (inj : ∀ x x' y, f x = some y → f x' = some y → x = x')
    (own : ∀ x o, atO ρ' τ' x = some o → ∃ y, f x = some y ∧ atO ρ τ y = some o ∧ atV σ' υ' x = atV σ υ y) : G κ A' F H ρ' σ' τ' υ' ∧ Fr A F H A' F H := by
  have sub : ∀ x b, b ∈ A' x → ∃ y, f x = some y ∧ b ∈ A y := fun x b hb => by
    rw [hA] at hb
    cases e : f x with
    | none => rw [e] at hb; simp at hb
    | some y => rw [e] at hb; exact ⟨y, rfl, hb⟩
  refine ⟨⟨len, lent, fun x o e => ?_, fun x => ?_, fun x y b n hx hy => ?_, fun x b hb => ?_, fun x b hb => ?_, g.fh⟩, Fr.sub fun x b hb => let ⟨y, _, h⟩ := sub x b hb; ⟨y, h⟩⟩
  · obtain ⟨y, h1, h2, h3⟩ := own x o e
    obtain ⟨v, h4, h5⟩ := g.own y o h2
    refine ⟨v, h3.trans h4, ?_⟩
    rw [hA, h1]
    exact h5
  · rw [hA]
    cases f x with
    | none => exact List.nodup_nil
    | some y => exact g.nd y
  · obtain ⟨x', ex, hx⟩ := sub x b hx
    obtain ⟨y', ey, hy⟩ := sub y b hy
    refine g.dj x' y' b (fun z => ?_) hx hy
    subst z
    exact n (inj x y x' ex ey)
  · obtain ⟨y, _, h⟩ := sub x b hb
    exact g.ff y b h
  · obtain ⟨y, _, h⟩ := sub x b hb
    exact g.ft y b h

theorem G.ltT (g : G κ A F H ρ σ τ υ) {k : Nat} (h : k < τ.length) : k < υ.length := g.lent ▸ h
theorem atO_top {r : O} : atO ρ (τ ++ [r]) (.t τ.length) = some r := by simp [atO]
theorem atO_app {r : O} {x : Ix} (h : x ≠ .t τ.length) : atO ρ (τ ++ [r]) x = atO ρ τ x := by
  cases x with
  | s i => rfl
  | t k =>
    have hk : k ≠ τ.length := fun z => h (by rw [z])
    show (τ ++ [r])[k]? = τ[k]?
    rcases Nat.lt_or_gt_of_ne hk with q | q
    · rw [List.getElem?_append_left q]
    · rw [List.getElem?_eq_none (by simp; omega), List.getElem?_eq_none (by omega)]
theorem atV_app {v : V} {x : Ix} (h : x ≠ .t υ.length) : atV σ (υ ++ [v]) x = atV σ υ x := by
  cases x with
  | s i => rfl
  | t k =>
    have hk : k ≠ υ.length := fun z => h (by rw [z])
    show (υ ++ [v])[k]? = υ[k]?
    rcases Nat.lt_or_gt_of_ne hk with q | q
    · rw [List.getElem?_append_left q]
    · rw [List.getElem?_eq_none (by simp; omega), List.getElem?_eq_none (by omega)]
theorem atV_top {v : V} : atV σ (υ ++ [v]) (.t υ.length) = some v := by simp [atV]
def upA (A : Fp) (x : Ix) (S : List Addr) : Fp := fun y => if y = x then S else A y
theorem upA_same {x : Ix} {S : List Addr} : upA A x S x = S := if_pos rfl
theorem upA_ne {x y : Ix} {S : List Addr} (h : y ≠ x) : upA A x S y = A y := if_neg h

/-- a shared value on the stack -/
theorem G.pushSh (g : G κ A F H ρ σ τ υ) {v : V} {d : D} (r : Rep κ F v d) : G κ (upA A (.t τ.length) []) F H ρ σ (τ ++ [.sh d]) (υ ++ [v]) ∧ Fr A F H (upA A (.t τ.length) []) F H := by
  have sub : ∀ x b, b ∈ upA A (.t τ.length) [] x → b ∈ A x ∧ x ≠ .t τ.length := fun x b hb => by
    by_cases e : x = .t τ.length
    · subst e; rw [upA_same] at hb; simp at hb
    · rw [upA_ne e] at hb; exact ⟨hb, e⟩
  refine ⟨⟨g.len, by simp [g.lent], fun x o e => ?_, fun x => ?_, fun x y b n hx hy => g.dj x y b n (sub x b hx).1 (sub y b hy).1, fun x b hb => g.ff x b (sub x b hb).1, fun x b hb => g.ft x b (sub x b hb).1, g.fh⟩, Fr.sub fun x b hb => ⟨x, (sub x b hb).1⟩⟩
  · by_cases z : x = .t τ.length
    · subst z
      rw [atO_top] at e; cases e
      rw [g.lent]
      refine ⟨v, atV_top, ?_⟩
      rw [upA, if_pos rfl]
      exact .fd (.sh r)
    · rw [atO_app z] at e
      obtain ⟨u, h1, h2⟩ := g.own x o e
      refine ⟨u, ?_, by rw [upA_ne z]; exact h2⟩
      rw [atV_app (by rw [← g.lent]; exact z)]
      exact h1
  · by_cases z : x = .t τ.length
    · subst z; rw [upA_same]; exact List.nodup_nil
    · rw [upA_ne z]; exact g.nd x
/-- a new owned thing on the stack -/
theorem G.pushNew (g : G κ A F H ρ σ τ υ) {p : Addr} {o : HO} {r : O} (h : H p = none) (hn : NotT o = true) (w : Own κ F (upd H p o) r (.ref p) [p]) :
    G κ (upA A (.t τ.length) [p]) F (upd H p o) ρ σ (τ ++ [r]) (υ ++ [.ref p]) ∧ Fr A F H (upA A (.t τ.length) [p]) F (upd H p o) := by
  have hF : F p = none := by
    cases e : F p with
    | none => rfl
    | some u => rw [g.fh _ _ e] at h; cases h
  have eH : Same H (upd H p o) := fun b u e => by rw [upd_ne (ne_of_none e h)]; exact e
  have sub : ∀ x b, b ∈ upA A (.t τ.length) [p] x → (x = .t τ.length ∧ b = p) ∨ (b ∈ A x ∧ x ≠ .t τ.length ∧ b ≠ p) := fun x b hb => by
    by_cases e : x = .t τ.length
    · subst e; rw [upA_same] at hb; exact .inl ⟨rfl, List.mem_singleton.mp hb⟩
    · rw [upA_ne e] at hb; exact .inr ⟨hb, e, fun z => g.notin h x (z ▸ hb)⟩
  refine ⟨⟨g.len, by simp [g.lent], fun x u e => ?_, fun x => ?_, fun x y b n hx hy => ?_, fun x b hb => ?_, fun x b hb => ?_, fun b u e => eH b u (g.fh b u e)⟩,
    ⟨fun b u e _ => eH b u e, fun b e => ?_, fun x b hb => ?_, Same.refl _, fun b e => .inl e⟩⟩
  · by_cases z : x = .t τ.length
    · subst z
      rw [atO_top] at e; cases e
      rw [g.lent]
      refine ⟨.ref p, atV_top, ?_⟩
      rw [upA, if_pos rfl]
      exact w
    · rw [atO_app z] at e
      obtain ⟨v, h1, h2⟩ := g.own x u e
      refine ⟨v, ?_, by rw [upA_ne z]; exact h2.mono (Same.refl _) fun b _ o e => eH b o e⟩
      rw [atV_app (by rw [← g.lent]; exact z)]
      exact h1
  · by_cases z : x = .t τ.length
    · subst z; rw [upA_same]; simp
    · rw [upA_ne z]; exact g.nd x
  · rcases sub x b hx with ⟨h1, h2⟩ | ⟨h1, h2, h3⟩
    · rcases sub y b hy with ⟨h4, _⟩ | ⟨_, _, h4⟩
      · exact n (h1.trans h4.symm)
      · exact h4 h2
    · rcases sub y b hy with ⟨_, h4⟩ | ⟨h4, _, _⟩
      · exact h3 h4
      · exact g.dj x y b n h1 h4
  · rcases sub x b hb with ⟨_, rfl⟩ | ⟨h1, _, _⟩
    · exact hF
    · exact g.ff x b h1
  · rcases sub x b hb with ⟨_, rfl⟩ | ⟨h1, _, _⟩
    · exact ⟨o, upd_same, hn⟩
    · obtain ⟨u, e, q⟩ := g.ft x b h1
      exact ⟨u, eH b u e, q⟩
  · cases q : H b with
    | none => exact absurd q e
    | some u => rw [eH b u q]; simp
  · rcases sub x b hb with ⟨_, rfl⟩ | ⟨h1, _, _⟩
    · exact .inr h
    · exact .inl ⟨x, h1⟩
/-- the top of the stack, laid aside -/
theorem G.pop {r : O} {v : V} (g : G κ A F H ρ σ (τ ++ [r]) (υ ++ [v])) : G κ (upA A (.t τ.length) []) F H ρ σ τ υ ∧ Own κ F H r v (A (.t τ.length)) ∧ Fr A F H (upA A (.t τ.length) []) F H := by
  have hl : τ.length = υ.length := by have := g.lent; simp at this; exact this
  have h := g.re (A' := upA A (.t τ.length) []) (ρ' := ρ) (σ' := σ) (τ' := τ) (υ' := υ) (fun x => if x = .t τ.length then none else some x) g.len hl (fun x => by
      by_cases z : x = .t τ.length
      · simp [upA, z]
      · simp [upA, z]) (fun x x' y h1 h2 => by
      split at h1
      · cases h1
      · split at h2
        · cases h2
        · cases h1; cases h2; rfl) (fun x o e => by
      have z : x ≠ .t τ.length := fun z => by subst z; simp [atO] at e
      refine ⟨x, if_neg z, (atO_app z).trans e, ?_⟩
      rw [atV_app (by rw [← hl]; exact z)])
  refine ⟨h.1, ?_, h.2⟩
  obtain ⟨u, h1, h2⟩ := g.own (.t τ.length) r atO_top
  rw [hl, atV_top] at h1
  cases h1
  exact h2
/-- the top of the stack, stored -/
theorem G.assign {r : O} {v : V} {i : Nat} (g : G κ A F H ρ σ (τ ++ [r]) (υ ++ [v])) : 
    G κ (upA (upA A (.s i) (A (.t τ.length))) (.t τ.length) []) F H (ρ.set i (some r)) (σ.set i (some v)) τ υ ∧ Fr A F H (upA (upA A (.s i) (A (.t τ.length))) (.t τ.length) []) F H := by
  have hl : τ.length = υ.length := by have := g.lent; simp at this; exact this
  refine g.re (fun x => if x = .t τ.length then none else if x = .s i then some (.t τ.length) else some x) (by simp [g.len]) hl (fun x => ?_) (fun x x' y h1 h2 => ?_) (fun x o e => ?_)
  · by_cases z : x = .t τ.length
    · simp [upA, z]
    · by_cases w : x = .s i
      · simp [upA, w]
      · simp [upA, z, w]
  · by_cases a : x = .t τ.length
    · rw [if_pos a] at h1; cases h1
    · rw [if_neg a] at h1
      by_cases a' : x' = .t τ.length
      · rw [if_pos a'] at h2; cases h2
      · rw [if_neg a'] at h2
        by_cases b : x = .s i
        · rw [if_pos b] at h1; cases h1
          by_cases b' : x' = .s i
          · rw [b, b']
          · rw [if_neg b'] at h2; cases h2; exact absurd rfl a'
        · rw [if_neg b] at h1; cases h1
          by_cases b' : x' = .s i
          · rw [if_pos b'] at h2; cases h2; exact absurd rfl a
          · rw [if_neg b'] at h2; cases h2; rfl
  · have z : x ≠ .t τ.length := fun z => by subst z; simp [atO] at e
    by_cases w : x = .s i
    · subst w
      have hi : i < ρ.length := by
        rcases Nat.lt_or_ge i ρ.length with q | q
        · exact q
        · simp [atO, List.getElem?_eq_none (show (ρ.set i (some r)).length ≤ i by simpa using q)] at e
      have hi' : i < σ.length := g.len ▸ hi
      refine ⟨.t τ.length, by rw [if_neg z, if_pos rfl], ?_, ?_⟩
      · simp [atO, hi] at e
        subst e
        exact atO_top
      · rw [hl, atV_top]
        simp [atV, hi']
    · refine ⟨x, by rw [if_neg z, if_neg w], ?_, ?_⟩
      · rw [atO_app z]
        cases x with
        | t k => exact e
        | s j =>
          have hj : j ≠ i := fun q => w (by rw [q])
          simp only [atO] at e ⊢
          rw [List.getElem?_set_ne (Ne.symm hj)] at e
          exact e
      · rw [atV_app (by rw [← hl]; exact z)]
        cases x with
        | t k => rfl
        | s j =>
          have hj : j ≠ i := fun q => w (by rw [q])
          simp only [atV]
          rw [List.getElem?_set_ne (Ne.symm hj)]
/-- a slot's thing moved onto the stack -/
theorem G.move {o : O} {v : V} {i : Nat} (g : G κ A F H ρ σ τ υ) (h : ρ[i]? = some (some o)) (hv : σ[i]? = some (some v)) :
    G κ (upA (upA A (.t τ.length) (A (.s i))) (.s i) []) F H (ρ.set i none) σ (τ ++ [o]) (υ ++ [v]) ∧ Fr A F H (upA (upA A (.t τ.length) (A (.s i))) (.s i) []) F H := by
  refine g.re (fun x => if x = .s i then none else if x = .t τ.length then some (.s i) else some x) (by simp [g.len]) (by simp [g.lent]) (fun x => ?_) (fun x x' y h1 h2 => ?_) (fun x u e => ?_)
  · by_cases z : x = .s i
    · simp [upA, z]
    · by_cases w : x = .t τ.length
      · simp [upA, w]
      · simp [upA, z, w]
  · by_cases a : x = .s i
    · rw [if_pos a] at h1; cases h1
    · rw [if_neg a] at h1
      by_cases a' : x' = .s i
      · rw [if_pos a'] at h2; cases h2
      · rw [if_neg a'] at h2
        by_cases b : x = .t τ.length
        · rw [if_pos b] at h1; cases h1
          by_cases b' : x' = .t τ.length
          · rw [b, b']
          · rw [if_neg b'] at h2; cases h2; exact absurd rfl a'
        · rw [if_neg b] at h1; cases h1
          by_cases b' : x' = .t τ.length
          · rw [if_pos b'] at h2; cases h2; exact absurd rfl a
          · rw [if_neg b'] at h2; cases h2; rfl
  · by_cases z : x = .s i
    · subst z
      simp only [atO] at e
      rcases Nat.lt_or_ge i ρ.length with q | q
      · rw [List.getElem?_set_self q] at e; cases e
      · rw [List.getElem?_eq_none (by simpa using q)] at e; cases e
    · by_cases w : x = .t τ.length
      · subst w
        rw [atO_top] at e; cases e
        refine ⟨.s i, by rw [if_neg z, if_pos rfl], by simp [atO, h], ?_⟩
        rw [g.lent, atV_top]
        simp [atV, hv]
      · rw [atO_app w] at e
        refine ⟨x, by rw [if_neg z, if_neg w], ?_, by rw [atV_app (by rw [← g.lent]; exact w)]⟩
        cases x with
        | t k => exact e
        | s j =>
          have hj : j ≠ i := fun q => z (by rw [q])
          simp only [atO] at e ⊢
          rw [List.getElem?_set_ne (Ne.symm hj)] at e
          exact e
/-- what a slot owns is frozen: from then on it is shared data -/
theorem G.freeze {o : O} {i : Nat} (g : G κ A F H ρ σ τ υ) (h : ρ[i]? = some (some o)) :
    ∃ F', G κ (upA A (.s i) []) F' H (ρ.set i (some (.sh o.toD))) σ τ υ ∧ Fr A F H (upA A (.s i) []) F' H ∧ ∃ v, σ[i]? = some (some v) ∧ Rep κ F' v o.toD := by
  obtain ⟨v, h1, h2⟩ := g.own (.s i) o (by simp [atO, h])
  have hv : σ[i]? = some (some v) := by
    cases e : σ[i]? with
    | none => simp [atV, e] at h1
    | some u => simp [atV, e] at h1; rw [h1]
  let F' : Hp := fun b => if b ∈ A (.s i) then H b else F b
  have eF : Same F F' := fun b u e => by
    show (if b ∈ A (.s i) then H b else F b) = some u
    by_cases z : b ∈ A (.s i)
    · rw [g.ff _ b z] at e; cases e
    · rw [if_neg z]; exact e
  have rep : Rep κ F' v o.toD := h2.rep eF fun b hb => if_pos hb
  have sub : ∀ x b, b ∈ upA A (.s i) [] x → b ∈ A x ∧ x ≠ .s i := fun x b hb => by
    by_cases e : x = .s i
    · subst e; rw [upA_same] at hb; simp at hb
    · rw [upA_ne e] at hb; exact ⟨hb, e⟩
  refine ⟨F', ⟨by simp [g.len], g.lent, fun x u e => ?_, fun x => ?_, fun x y b n hx hy => g.dj x y b n (sub x b hx).1 (sub y b hy).1, fun x b hb => ?_, fun x b hb => g.ft x b (sub x b hb).1, fun b u e => ?_⟩,
    ⟨fun _ _ e _ => e, fun _ e => e, fun x b hb => .inl ⟨x, (sub x b hb).1⟩, eF, fun b e => ?_⟩, v, hv, rep⟩
  · by_cases z : x = .s i
    · subst z
      have hi : i < ρ.length := by
        rcases Nat.lt_or_ge i ρ.length with q | q
        · exact q
        · rw [List.getElem?_eq_none q] at h; cases h
      simp [atO, hi] at e
      subst e
      refine ⟨v, h1, ?_⟩
      rw [upA_same]
      exact .fd (.sh rep)
    · have e' : atO ρ τ x = some u := by
        cases x with
        | t k => exact e
        | s j =>
          have hj : j ≠ i := fun q => z (by rw [q])
          simp only [atO] at e ⊢
          rw [List.getElem?_set_ne (Ne.symm hj)] at e
          exact e
      obtain ⟨w, h3, h4⟩ := g.own x u e'
      exact ⟨w, h3, by rw [upA_ne z]; exact h4.mono eF fun _ _ _ q => q⟩
  · by_cases z : x = .s i
    · subst z; rw [upA_same]; exact List.nodup_nil
    · rw [upA_ne z]; exact g.nd x
  · show (if b ∈ A (.s i) then H b else F b) = none
    rw [if_neg (g.dj x (.s i) b (sub x b hb).2 (sub x b hb).1)]
    exact g.ff x b (sub x b hb).1
  · have e : (if b ∈ A (.s i) then H b else F b) = some u := e
    split at e
    · exact e
    · exact g.fh b u e
  · have e : (if b ∈ A (.s i) then H b else F b) ≠ none := e
    by_cases z : b ∈ A (.s i)
    · exact .inr (.inr ⟨_, z⟩)
    · rw [if_neg z] at e; exact .inl e
/-- the top of the stack is frozen -/
theorem G.freezeT {o : O} {v : V} (g : G κ A F H ρ σ (τ ++ [o]) (υ ++ [v])) :
    ∃ F', G κ (upA A (.t τ.length) []) F' H ρ σ (τ ++ [.sh o.toD]) (υ ++ [v]) ∧ Fr A F H (upA A (.t τ.length) []) F' H ∧ Rep κ F' v o.toD := by
  obtain ⟨g1, w, f1⟩ := g.pop
  let B := A (.t τ.length)
  let F' : Hp := fun b => if b ∈ B then H b else F b
  have eF : Same F F' := fun b u e => by
    show (if b ∈ B then H b else F b) = some u
    by_cases z : b ∈ B
    · rw [g.ff _ b z] at e; cases e
    · rw [if_neg z]; exact e
  have rep : Rep κ F' v o.toD := w.rep eF fun b hb => if_pos hb
  have sub : ∀ x b, b ∈ upA A (.t τ.length) [] x → b ∈ A x ∧ x ≠ .t τ.length := fun x b hb => by
    by_cases e : x = .t τ.length
    · subst e; rw [upA_same] at hb; simp at hb
    · rw [upA_ne e] at hb; exact ⟨hb, e⟩
  have g2 : G κ (upA A (.t τ.length) []) F' H ρ σ τ υ := ⟨g1.len, g1.lent, fun x u e => let ⟨w, h3, h4⟩ := g1.own x u e; ⟨w, h3, h4.mono eF fun _ _ _ q => q⟩, g1.nd, g1.dj, fun x b hb => by
      show (if b ∈ B then H b else F b) = none
      rw [if_neg (g.dj x (.t τ.length) b (sub x b hb).2 (sub x b hb).1)]
      exact g.ff x b (sub x b hb).1, g1.ft, fun b u e => by
      have e : (if b ∈ B then H b else F b) = some u := e
      split at e
      · exact e
      · exact g.fh b u e⟩
  have f2 : Fr A F H (upA A (.t τ.length) []) F' H := ⟨fun _ _ e _ => e, fun _ e => e, fun x b hb => .inl ⟨x, (sub x b hb).1⟩, eF, fun b e => by
    have e : (if b ∈ B then H b else F b) ≠ none := e
    by_cases z : b ∈ B
    · exact .inr (.inr ⟨_, z⟩)
    · rw [if_neg z] at e; exact .inl e⟩
  have g3 := g2.pushSh rep
  refine ⟨F', ?_, ?_, rep⟩
  · have : upA (upA A (.t τ.length) []) (.t τ.length) [] = upA A (.t τ.length) [] := by
      funext x; unfold upA; split <;> rfl
    rw [this] at g3
    exact g3.1
  · exact f2
/-- what is known of some slots is dropped -/
theorem G.drop (g : G κ A F H ρ σ τ υ) (len : ρ'.length = ρ.length) (h : ∀ (i : Nat) (o : O), ρ'[i]? = some (some o) → ρ[i]? = some (some o)) : G κ A F H ρ' σ τ υ :=
  ⟨len.trans g.len, g.lent, fun x o e => by
    refine g.own x o ?_
    cases x with
    | t k => exact e
    | s i =>
      simp only [atO] at e ⊢
      have := h i o (by cases q : ρ'[i]? with
        | none => rw [q] at e; cases e
        | some z => rw [q] at e; simp at e; rw [e])
      rw [this]; rfl, g.nd, g.dj, g.ff, g.ft, g.fh⟩
end

/-! ### denotations -/
inductive Out (α : Type) where
  | bad | ok (a : α) (ρ : Env) | exc (e : D) (ρ : Env)
abbrev M (α : Type) := Env → Out α
def mBind {α β : Type} (m : M α) (k : α → M β) : M β := fun ρ => match m ρ with
  | .bad => .bad
  | .ok a ρ' => k a ρ'
  | .exc e ρ' => .exc e ρ'
def mPure {α : Type} (a : α) : M α := fun ρ => .ok a ρ
inductive OutS where
  | bad | next (ρ : Env) | ret (r : O) (ρ : Env) | brk (ρ : Env) | cont (ρ : Env) | exc (e : D) (ρ : Env)
abbrev MS := Env → OutS

/-- what a raised exception is worth: its class by name, its own fields -/
def ExRep (κ : Kx) (F H : Hp) (cls : Value) (d : Option Addr) : D → Prop
  | .ob c ns vs => ∃ C, cls = .ref C ∧ κ.mg c = some (.ref C) ∧ ∃ dd fs, d = some dd ∧ H dd = some (.xd fs) ∧ fs.map (·.1) = ns ∧ Reps κ F (fs.map (·.2)) vs
  | _ => False
abbrev kx (X : Cx) : Kx := ⟨X.K, X.mg⟩
abbrev WX' := Value → Option Addr → L2.St → Hp → Prop

def isSh : O → Bool
  | .fd (.sh _) => true
  | _ => false
/-- the slot owns what it holds -/
def Ow (ρ : Env) (i : Nat) : Prop := ∃ o, ρ[i]? = some (some o) ∧ isSh o = false
/-- a step; p: it changes nothing that stood -/
structure Stp (p : Bool) (ρ : Env) (A : Fp) (F H : Hp) (ρ' : Env) (A' : Fp) (F' H' : Hp) : Prop where
  fr : Fr A F H A' F' H'
  pu : p = true → Same H H' ∧ ∀ i, Ow ρ i → Ow ρ' i ∧ ∀ b ∈ A (.s i), b ∈ A' (.s i)
theorem Stp.refl {p : Bool} {ρ : Env} {A : Fp} {F H : Hp} : Stp p ρ A F H ρ A F H := ⟨Fr.refl, fun _ => ⟨Same.refl _, fun _ q => ⟨q, fun _ h => h⟩⟩⟩
theorem Stp.trans {p q : Bool} {ρ ρ' ρ'' : Env} {A A' A'' : Fp} {F F' F'' H H' H'' : Hp} (x : Stp p ρ A F H ρ' A' F' H') (y : Stp q ρ' A' F' H' ρ'' A'' F'' H'') : Stp (p && q) ρ A F H ρ'' A'' F'' H'' :=
  ⟨x.fr.trans y.fr, fun h => by
    obtain ⟨h1, h2⟩ := Bool.and_eq_true_iff.mp h
    refine ⟨(x.pu h1).1.trans (y.pu h2).1, fun i w => ?_⟩
    obtain ⟨w1, s1⟩ := (x.pu h1).2 i w
    obtain ⟨w2, s2⟩ := (y.pu h2).2 i w1
    exact ⟨w2, fun b hb => s2 b (s1 b hb)⟩⟩
theorem Stp.any {p : Bool} {ρ ρ' : Env} {A A' : Fp} {F F' H H' : Hp} (x : Stp true ρ A F H ρ' A' F' H') : Stp p ρ A F H ρ' A' F' H' := ⟨x.fr, fun _ => x.pu rfl⟩
theorem Stp.no {ρ ρ' : Env} {A A' : Fp} {F F' H H' : Hp} (x : Fr A F H A' F' H') : Stp false ρ A F H ρ' A' F' H' := ⟨x, nofun⟩
theorem Stp.imp {p q : Bool} {ρ ρ' : Env} {A A' : Fp} {F F' H H' : Hp} (x : Stp p ρ A F H ρ' A' F' H') (h : q = true → p = true) : Stp q ρ A F H ρ' A' F' H' := ⟨x.fr, fun e => x.pu (h e)⟩
/-- a further step upon the same slots -/
theorem Stp.then {p : Bool} {ρ ρ' : Env} {A A' A'' : Fp} {F F' F'' H H' H'' : Hp} (x : Stp p ρ A F H ρ' A' F' H') (f : Fr A' F' H' A'' F'' H'') (h : Same H' H'') (hA : ∀ i, A'' (.s i) = A' (.s i)) : Stp p ρ A F H ρ' A'' F'' H'' :=
  ⟨x.fr.trans f, fun z => ⟨(x.pu z).1.trans h, fun i q => ⟨((x.pu z).2 i q).1, fun b hb => by rw [hA]; exact ((x.pu z).2 i q).2 b hb⟩⟩⟩
/-- what may come out by an exception -/
def XX (κ : Kx) (W : WX') (A : Fp) (F H : Hp) (σ : L2.St) (τ : List O) (υ : List V) (e : D) (ρ' : Env) : Prop :=
  ∀ cls d A' F' H', Fr A F H A' F' H' → G κ A' F' H' ρ' σ τ υ → ExRep κ F' H' cls d e → W cls d σ H'
theorem XX.step {κ : Kx} {W : WX'} {A A1 : Fp} {F F1 H H1 : Hp} {σ : L2.St} {τ : List O} {υ : List V} {e : D} {ρ' : Env} (x : XX κ W A F H σ τ υ e ρ') (f : Fr A F H A1 F1 H1) : XX κ W A1 F1 H1 σ τ υ e ρ' :=
  fun cls d A2 F2 H2 f2 g q => x cls d A2 F2 H2 (f.trans f2) g q

/-- what is wanted of a denotation's end -/
def Wp (κ : Kx) (W : WX') (A : Fp) (F H : Hp) (σ : L2.St) (τ : List O) (υ : List V) {α : Type} (out : Out α) (q : α → Env → Prop) : Prop := match out with
  | .bad => False
  | .ok a ρ' => q a ρ'
  | .exc e ρ' => XX κ W A F H σ τ υ e ρ'
section
variable {κ : Kx} {W : WX'} {A A1 : Fp} {F F1 H H1 : Hp} {σ : L2.St} {τ : List O} {υ : List V} {α β : Type} {q q' : α → Env → Prop}
theorem Wp.imp {out : Out α} (h : Wp κ W A F H σ τ υ out q) (i : ∀ a ρ', q a ρ' → q' a ρ') : Wp κ W A F H σ τ υ out q' := by
  cases out with
  | bad => exact h
  | ok a ρ' => exact i a ρ' h
  | exc e ρ' => exact h
theorem Wp.step {out : Out α} (h : Wp κ W A F H σ τ υ out q) (f : Fr A F H A1 F1 H1) : Wp κ W A1 F1 H1 σ τ υ out q := by
  cases out with
  | bad => exact h
  | ok a ρ' => exact h
  | exc e ρ' => exact XX.step h f
theorem Wp.bind {m : M α} {k : α → M β} {ρ : Env} {q : β → Env → Prop} (h : Wp κ W A F H σ τ υ (mBind m k ρ) q) : Wp κ W A F H σ τ υ (m ρ) fun a ρ1 => Wp κ W A F H σ τ υ (k a ρ1) q := by
  unfold mBind at h
  cases e : m ρ with
  | bad => rw [e] at h; exact h
  | ok a ρ' => rw [e] at h; exact h
  | exc x ρ' => rw [e] at h; exact h
end

/-- an expression: its value on the stack -/
def tE (κ : Kx) (W : WX') (p : Bool) (m : M O) : TE := fun σ H Q => ∃ A F ρ τ υ, G κ A F H ρ σ τ υ ∧ Wp κ W A F H σ τ υ (m ρ) fun r ρ' => ∀ v A' F' H', Stp p ρ A F H ρ' A' F' H' → G κ A' F' H' ρ' σ (τ ++ [r]) (υ ++ [v]) → Q v H'
/-- an expression: its value shared -/
def tV (κ : Kx) (W : WX') (p : Bool) (m : M D) : TE := fun σ H Q => ∃ A F ρ τ υ, G κ A F H ρ σ τ υ ∧ Wp κ W A F H σ τ υ (m ρ) fun d ρ' => ∀ v A' F' H', Stp p ρ A F H ρ' A' F' H' → G κ A' F' H' ρ' σ τ υ → Rep κ F' v d → Q v H'
/-- expressions in a row: their values shared -/
def tVs (κ : Kx) (W : WX') (p : Bool) (m : M (List D)) : TA := fun σ H Q => ∃ A F ρ τ υ, G κ A F H ρ σ τ υ ∧ Wp κ W A F H σ τ υ (m ρ) fun ds ρ' => ∀ vs A' F' H', Stp p ρ A F H ρ' A' F' H' → G κ A' F' H' ρ' σ τ υ → Reps κ F' vs ds → Q vs H'
/-- where what is borrowed lies: in a slot, or in none -/
def Src (ρ : Env) (A : Fp) : Option Nat → List Addr → Prop
  | some i, B => ∀ b ∈ B, Ow ρ i ∧ b ∈ A (.s i)
  | none, B => ∀ b ∈ B, ∀ x, b ∉ A x
/-- an expression that is only looked at -/
def tB (κ : Kx) (W : WX') (p : Bool) (m : M (Option Nat × O)) : TE := fun σ H Q => ∃ A F ρ τ υ, G κ A F H ρ σ τ υ ∧ Wp κ W A F H σ τ υ (m ρ) fun r ρ' => ∀ v B A' F' H', Stp p ρ A F H ρ' A' F' H' → G κ A' F' H' ρ' σ τ υ → Own κ F' H' r.2 v B → Src ρ' A' r.1 B → Q v H'
inductive OwnL (κ : Kx) (ρ : Env) (A : Fp) (F H : Hp) : List (Option Nat × O) → List V → Prop
  | nil : OwnL κ ρ A F H [] []
  | cons {r : Option Nat × O} {v : V} {B : List Addr} {rs : List (Option Nat × O)} {vs : List V} : Own κ F H r.2 v B → Src ρ A r.1 B → OwnL κ ρ A F H rs vs → OwnL κ ρ A F H (r :: rs) (v :: vs)
/-- expressions in a row, only looked at -/
def tBs (κ : Kx) (W : WX') (p : Bool) (m : M (List (Option Nat × O))) : TA := fun σ H Q => ∃ A F ρ τ υ, G κ A F H ρ σ τ υ ∧ Wp κ W A F H σ τ υ (m ρ) fun rs ρ' => ∀ vs A' F' H', Stp p ρ A F H ρ' A' F' H' → G κ A' F' H' ρ' σ τ υ → OwnL κ ρ' A' F' H' rs vs → Q vs H'
/-- a test -/
def tT (κ : Kx) (W : WX') (p : Bool) (m : M Bool) : TT := fun σ H Q => ∃ A F ρ τ υ, G κ A F H ρ σ τ υ ∧ Wp κ W A F H σ τ υ (m ρ) fun r ρ' => ∀ A' F' H', Stp p ρ A F H ρ' A' F' H' → G κ A' F' H' ρ' σ τ υ → Q r H'
/-- what is wanted of a statement's end; the slots mu are not stored to -/
def PsO (κ : Kx) (W : WX') (mu : List Nat) (E : Ends) (σ : L2.St) (A : Fp) (F H : Hp) : OutS → Prop
  | .bad => False
  | .next ρ' => ∀ σ' A' F' H', Fr A F H A' F' H' → G κ A' F' H' ρ' σ' [] [] → (∀ i ∈ mu, σ'[i]? = σ[i]?) → E.nx σ' H'
  | .ret r ρ' => ∀ v σ' A' F' H', Fr A F H A' F' H' → G κ A' F' H' ρ' σ' [r] [v] → (∀ i ∈ mu, σ'[i]? = σ[i]?) → E.rt v H'
  | .brk ρ' => ∀ σ' A' F' H', Fr A F H A' F' H' → G κ A' F' H' ρ' σ' [] [] → (∀ i ∈ mu, σ'[i]? = σ[i]?) → E.bk σ' H'
  | .cont ρ' => ∀ σ' A' F' H', Fr A F H A' F' H' → G κ A' F' H' ρ' σ' [] [] → (∀ i ∈ mu, σ'[i]? = σ[i]?) → E.ct σ' H'
  | .exc e ρ' => ∀ cls d σ' A' F' H', Fr A F H A' F' H' → G κ A' F' H' ρ' σ' [] [] → ExRep κ F' H' cls d e → (∀ i ∈ mu, σ'[i]? = σ[i]?) → W cls d σ' H'
/-- a statement -/
def tS (κ : Kx) (W : WX') (mu : List Nat) (m : MS) : TS := fun E σ H => ∃ A F ρ, G κ A F H ρ σ [] [] ∧ PsO κ W mu E σ A F H (m ρ)

/-- a weaker reading -/
theorem pe_imp {X : Cx} {e : Expr} {t t' : TE} (h : PE X e t) (i : ∀ σ H Q, t' σ H Q → t σ H Q) : PE X e t' := ⟨fun pins s σ H Q I q => h.run pins s σ H Q I (i σ H Q q)⟩
theorem pt_imp {X : Cx} {e : Expr} {t t' : TT} (h : PT X e t) (i : ∀ σ H Q, t' σ H Q → t σ H Q) : PT X e t' := ⟨fun pins s σ H Q I q => h.run pins s σ H Q I (i σ H Q q)⟩
theorem ps_imp {X : Cx} {st : Stmt} {t t' : TS} (h : PS X st t) (i : ∀ E σ H, t' E σ H → t E σ H) : PS X st t' := ⟨fun pins s σ H E I q => h.run pins s σ H E I (i E σ H q)⟩
theorem pss_imp {X : Cx} {st : List Stmt} {t t' : TS} (h : PSs X st t) (i : ∀ E σ H, t' E σ H → t E σ H) : PSs X st t' := ⟨fun pins s σ H E I q => h.run pins s σ H E I (i E σ H q)⟩
end DL

end

section
set_option Elab.async false
set_option linter.all false
set_option maxRecDepth 100000
/-! DL, part C: operations on data, expressions. -/
namespace DL
open PySem L2

/-! ### what data tell of values -/
section
variable {κ : Kx} {F H : Hp} {o : O} {v : V} {B : List Addr}
theorem Rep.int_v {i : Int} (r : Rep κ F v (.int i)) : v = .int i := by cases r; rfl
theorem Rep.bl_v {b : Bool} (r : Rep κ F v (.bl b)) : v = .bl b := by cases r; rfl
theorem Rep.str_v {x : Str} (r : Rep κ F v (.str x)) : v = .str x := by cases r; rfl
theorem Rep.non_v (r : Rep κ F v .non) : v = .non := by cases r; rfl
theorem Rep.tup_v {ds : List D} (r : Rep κ F v (.tup ds)) : ∃ a vs, v = .ref a ∧ F a = some (.tup vs) ∧ Reps κ F vs ds := by
  cases r with
  | tup h r => exact ⟨_, _, rfl, h, r⟩
theorem Rep.lst_v {ds : List D} (r : Rep κ F v (.lst ds)) : ∃ a vs, v = .ref a ∧ F a = some (.lst vs) ∧ Reps κ F vs ds := by
  cases r with
  | lst h r => exact ⟨_, _, rfl, h, r⟩
theorem Rep.fz_v {ds : List D} (r : Rep κ F v (.fz ds)) : ∃ a vs, v = .ref a ∧ SqL κ.K F a vs ∧ Reps κ F vs ds := by
  cases r with
  | fz h r => exact ⟨_, _, rfl, h, r⟩
theorem Rep.dk_v {ks : List Key} {ds : List D} (r : Rep κ F v (.dk ks ds)) : ∃ a kvs, v = .ref a ∧ F a = some (.dK kvs) ∧ kvs.map (·.1) = ks ∧ Reps κ F (kvs.map (·.2)) ds := by
  cases r with
  | dk h r => exact ⟨_, _, rfl, h, rfl, r⟩
theorem Rep.dt_v {ks : List (List Key)} {ds : List D} (r : Rep κ F v (.dt ks ds)) : ∃ a kvs, v = .ref a ∧ F a = some (.dT kvs) ∧ kvs.map (·.1) = ks ∧ Reps κ F (kvs.map (·.2)) ds := by
  cases r with
  | dt h r => exact ⟨_, _, rfl, h, rfl, r⟩
theorem Rep.ob_v {c : Str} {ns : List Str} {ds : List D} (r : Rep κ F v (.ob c ns ds)) : ∃ a C dx fs, v = .ref a ∧ F a = some (.ins C dx fs) ∧ κ.mg c = some (.ref C) ∧ fs.map (·.1) = ns ∧ Reps κ F (fs.map (·.2)) ds := by
  cases r with
  | ob h m r => exact ⟨_, _, _, _, rfl, h, m, rfl, r⟩
/-- a list that is owned or shared: its object in the whole heap, its items shared -/
theorem Own.lst_v {ds : List D} (w : Own κ F H o v B) (e : o.toD = .lst ds) (fh : Same F H) : ∃ a vs, v = .ref a ∧ H a = some (.lst vs) ∧ Reps κ F vs ds := by
  cases w with
  | fd w =>
    cases w with
    | sh r =>
      have e' : _ = D.lst ds := e
      subst e'
      obtain ⟨a, vs, h1, h2, h3⟩ := r.lst_v
      exact ⟨a, vs, h1, fh _ _ h2, h3⟩
    | ct w =>
      rename_i c a
      cases c with
      | lst ds' =>
        have e' : D.lst ds' = D.lst ds := e
        cases e'
        obtain ⟨vs, h1, h2⟩ := w
        exact ⟨a, vs, rfl, h1, h2⟩
      | dk _ _ => cases e
      | dt _ _ => cases e
  | ob _ _ _ => cases e
  | dk _ _ => cases e
theorem Own.tup_v {ds : List D} (w : Own κ F H o v B) (e : o.toD = .tup ds) : ∃ a vs, v = .ref a ∧ F a = some (.tup vs) ∧ Reps κ F vs ds := by
  cases w with
  | fd w =>
    cases w with
    | sh r =>
      have e' : _ = D.tup ds := e
      subst e'
      exact r.tup_v
    | ct w =>
      rename_i c a
      cases c <;> cases e
  | ob _ _ _ => cases e
  | dk _ _ => cases e
theorem Own.fz_v {ds : List D} (w : Own κ F H o v B) (e : o.toD = .fz ds) : ∃ a vs, v = .ref a ∧ SqL κ.K F a vs ∧ Reps κ F vs ds := by
  cases w with
  | fd w =>
    cases w with
    | sh r =>
      have e' : _ = D.fz ds := e
      subst e'
      exact r.fz_v
    | ct w =>
      rename_i c a
      cases c <;> cases e
  | ob _ _ _ => cases e
  | dk _ _ => cases e
theorem Own.int_v {i : Int} (w : Own κ F H o v B) (e : o.toD = .int i) (fh : Same F H) : v = .int i := by
  have r := w.repH fh
  rw [e] at r
  exact r.int_v
theorem Own.bl_v {b : Bool} (w : Own κ F H o v B) (e : o.toD = .bl b) (fh : Same F H) : v = .bl b := by
  have r := w.repH fh
  rw [e] at r
  exact r.bl_v
theorem Own.str_v {x : Str} (w : Own κ F H o v B) (e : o.toD = .str x) (fh : Same F H) : v = .str x := by
  have r := w.repH fh
  rw [e] at r
  exact r.str_v
theorem Own.non_v (w : Own κ F H o v B) (e : o.toD = .non) (fh : Same F H) : v = .non := by
  have r := w.repH fh
  rw [e] at r
  exact r.non_v
end

/-! ### ends of an expression -/
section
variable {κ : Kx} {A : Fp} {F H : Hp} {ρ : Env} {σ : L2.St} {τ : List O} {υ : List V}
/-- what an operation's end hands on -/
def Fin (κ : Kx) (A : Fp) (F H : Hp) (ρ : Env) (σ : L2.St) (τ : List O) (υ : List V) (o : O) (v : V) (H' : Hp) : Prop :=
  ∃ A' F', Stp true ρ A F H ρ A' F' H' ∧ G κ A' F' H' ρ σ (τ ++ [o]) (υ ++ [v])
theorem upA_t {k : Nat} {S : List Addr} (i : Nat) : upA A (.t k) S (.s i) = A (.s i) := upA_ne nofun
theorem fin_sh (g : G κ A F H ρ σ τ υ) {v : V} {d : D} (r : Rep κ F v d) : Fin κ A F H ρ σ τ υ (.sh d) v H :=
  ⟨_, F, Stp.refl.then (g.pushSh r).2 (Same.refl _) fun i => upA_t i, (g.pushSh r).1⟩
theorem same_new {H : Hp} {p : Addr} {o : HO} (h : H p = none) : Same H (upd H p o) := fun b u q => by rw [upd_ne (ne_of_none q h)]; exact q
theorem fin_tup (g : G κ A F H ρ σ τ υ) {p : Addr} {vs : List V} {ds : List D} (h : H p = none) (r : Reps κ F vs ds) : Fin κ A F H ρ σ τ υ (.sh (.tup ds)) (.ref p) (upd H p (.tup vs)) := by
  obtain ⟨g1, f1⟩ := g.share (.tup vs) h
  have e : Rep κ (upd F p (.tup vs)) (.ref p) (.tup ds) := .tup upd_same (r.mono f1.grow)
  obtain ⟨g2, f2⟩ := g1.pushSh e
  exact ⟨_, _, Stp.refl.then (f1.trans f2) (same_new h) fun i => upA_t i, g2⟩
theorem fin_lst (g : G κ A F H ρ σ τ υ) {p : Addr} {vs : List V} {ds : List D} (h : H p = none) (r : Reps κ F vs ds) : Fin κ A F H ρ σ τ υ (.lst ds) (.ref p) (upd H p (.lst vs)) := by
  obtain ⟨g2, f2⟩ := g.pushNew (r := .lst ds) h rfl (.fd (.ct ⟨vs, upd_same, r⟩))
  exact ⟨_, _, Stp.refl.then f2 (same_new h) fun i => upA_t i, g2⟩
end

/-! ### two-place operations -/
def Op2 (κ : Kx) (r : R2) (f : D → D → Option O) : Prop := ∀ (A : Fp) (F H : Hp) (ρ : Env) (σ : L2.St) (τ : List O) (υ : List V), G κ A F H ρ σ τ υ →
  ∀ (o1 o2 : O) (v1 v2 : V) (B1 B2 : List Addr), Own κ F H o1 v1 B1 → Own κ F H o2 v2 B2 → ∀ o, f o1.toD o2.toD = some o → ∀ Q : VK, (∀ v H', Fin κ A F H ρ σ τ υ o v H' → Q v H') → r v1 v2 H Q
def mOp2 (pb : Bool) (f : D → D → Option O) (ma mb : M (Option Nat × O)) : M O := mBind ma fun x => if pb || isSh x.2 then mBind mb fun y => match f x.2.toD y.2.toD with
  | some o => mPure o
  | none => fun _ => .bad
  else fun _ => .bad
theorem isSh_stay {κ : Kx} {F F' H H' : Hp} {o : O} {v : V} {B : List Addr} (h : isSh o = true) (w : Own κ F H o v B) (e : Same F F') : Own κ F' H' o v B := by
  cases w with
  | fd w =>
    cases w with
    | sh r => exact .fd (.sh (r.mono e))
    | ct _ => cases h
  | ob _ _ _ => cases h
  | dk _ _ => cases h
theorem Own.sh_v {κ : Kx} {F H : Hp} {d : D} {v : V} {B : List Addr} (w : Own κ F H (.sh d) v B) : Rep κ F v d := by
  cases w with
  | fd w => cases w with
    | sh r => exact r
theorem Own.sh_nil {κ : Kx} {F H : Hp} {d : D} {v : V} {B : List Addr} (w : Own κ F H (.sh d) v B) : B = [] := by
  cases w with
  | fd w => cases w with
    | sh r => rfl
theorem isSh_v {κ : Kx} {F H : Hp} {o : O} {v : V} {B : List Addr} (h : isSh o = true) (w : Own κ F H o v B) : ∃ d, o = .sh d ∧ Rep κ F v d := by
  cases w with
  | fd w =>
    cases w with
    | sh r => exact ⟨_, rfl, r⟩
    | ct _ => cases h
  | ob _ _ _ => cases h
  | dk _ _ => cases h
section
variable {X : Cx} {κ : Kx} {W : WX'} {a b : Expr} {pa pb : Bool} {ma mb : M (Option Nat × O)} {pos : Pos}
/-- two operands, then an operation: the reading -/
theorem tOp_of {r : R2} {f : D → D → Option O} (hs : Op2 κ r f) {σ : L2.St} {H : Hp} {Q : VK} (h : tE κ W (pa && pb) (mOp2 pb f ma mb) σ H Q) : tOp r (tB κ W pa ma) (tB κ W pb mb) σ H Q := by
  obtain ⟨A, F, ρ, τ, υ, g, h⟩ := h
  refine ⟨A, F, ρ, τ, υ, g, h.bind.imp fun x ρ1 h v1 B1 A1 F1 H1 f1 g1 w1 _ => ?_⟩
  split at h
  · rename_i hc
    refine ⟨A1, F1, ρ1, τ, υ, g1, (h.step f1.fr).bind.imp fun y ρ2 h v2 B2 A2 F2 H2 f2 g2 w2 _ => ?_⟩
    have w1' : Own κ F2 H2 x.2 v1 B1 := by
      rcases Bool.or_eq_true_iff.mp hc with z | z
      · exact w1.mono f2.fr.grow fun b _ o q => (f2.pu z).1 b o q
      · exact isSh_stay z w1 f2.fr.grow
    cases e3 : f x.2.toD y.2.toD with
    | none => rw [e3] at h; exact h.elim
    | some o =>
      rw [e3] at h
      refine hs A2 F2 H2 ρ2 σ τ υ g2 x.2 y.2 v1 v2 B1 B2 w1' w2 o e3 Q fun v H3 ⟨A3, F3, f3, g3⟩ => ?_
      exact h v A3 F3 H3 (((f1.trans f2).trans f3).imp fun z => by rw [z]; rfl) g3
  · exact h.elim
theorem de_op {op : Operator} {r : R2} {f : D → D → Option O} (ho : OpR X (binaryOp op) r) (hs : Op2 κ r f) (ha : PE X a (tB κ W pa ma)) (hb : PE X b (tB κ W pb mb)) : PE X (.BinOp a op b pos) (tE κ W (pa && pb) (mOp2 pb f ma mb)) :=
  pe_imp (pe_op ho ha hb) fun _ _ _ h => tOp_of hs h
theorem de_cmp {op : CmpOp} {r : R2} {f : D → D → Option O} (ho : OpR X (compareOp op) r) (hs : Op2 κ r f) (ha : PE X a (tB κ W pa ma)) (hb : PE X b (tB κ W pb mb)) (hm : behindInMarks op b = false) : PE X (.Compare a [op] [b] pos) (tE κ W (pa && pb) (mOp2 pb f ma mb)) :=
  pe_imp (pe_cmpR ho ha hb hm) fun _ _ _ h => tOp_of hs h
end

/-! ### the operations on data -/
abbrev lim : Nat := 16777216
def addD : D → D → Option O
  | .int i, .int j => some (.sh (.int (i + j)))
  | .int i, .bl k => some (.sh (.int (i + PyProof.Rows.b2i k)))
  | .str x, .str y => if x.length + y.length ≤ lim then some (.sh (.str (x ++ y))) else none
  | .tup xs, .tup ys => if xs.length + ys.length ≤ lim then some (.sh (.tup (xs ++ ys))) else none
  | .lst xs, .lst ys => if xs.length + ys.length ≤ lim then some (.lst (xs ++ ys)) else none
  | _, _ => none
def rAddA (K : PySem.W.Frag) : R2 := fun x y H Q => (rI0 (fun i j => .int (i + j)) x y H Q ∨ (∃ i k, x = .int i ∧ y = .bl k ∧ Q (.int (i + PyProof.Rows.b2i k)) H)) ∨ (∃ i j, x = .str i ∧ y = .str j ∧ i.length + j.length ≤ sizeLine ∧ Q (.str (i ++ j)) H) ∨ rCatA K x y H Q ∨ rCat x y H Q
section
variable {X : Cx}
theorem op_addA : OpR X (binaryOp .Add) (rAddA X.K) := (op_add.or op_add_ib).or (op_add_str.or (op_catA.or op_cat))
end
theorem lim_eq : lim = sizeLine := sizeLine_eq.symm
theorem Same.tup {K : PySem.W.Frag} {F H : Hp} (e : Same F H) {a : Addr} {vs : List V} (h : SqT K F a vs) : SqT K H a vs := sqT_mono e h
theorem add_sem {κ : Kx} : Op2 κ (rAddA κ.K) addD := by
  intro A F H ρ σ τ υ g o1 o2 v1 v2 B1 B2 w1 w2 o e Q q
  have r1 := w1.repH g.fh
  have r2 := w2.repH g.fh
  unfold addD at e
  split at e
  · rename_i i j e1 e2
    cases e
    have a1 := w1.int_v e1 g.fh
    have a2 := w2.int_v e2 g.fh
    exact .inl (.inl ⟨i, j, a1, a2, q _ _ (fin_sh g (.int _))⟩)
  · rename_i i k e1 e2
    cases e
    exact .inl (.inr ⟨i, k, w1.int_v e1 g.fh, w2.bl_v e2 g.fh, q _ _ (fin_sh g (.int _))⟩)
  · rename_i x y e1 e2
    split at e
    · rename_i hl
      cases e
      exact .inr (.inl ⟨x, y, w1.str_v e1 g.fh, w2.str_v e2 g.fh, lim_eq ▸ hl, q _ _ (fin_sh g (.str _))⟩)
    · cases e
  · rename_i xs ys e1 e2
    split at e
    · rename_i hl
      cases e
      obtain ⟨a, vs, rfl, h1, s1⟩ := w1.tup_v e1
      obtain ⟨b, ws, rfl, h2, s2⟩ := w2.tup_v e2
      refine .inr (.inr (.inl ⟨a, b, vs, ws, rfl, rfl, SqT.of (g.fh _ _ h1), SqT.of (g.fh _ _ h2), by rw [s1.length, s2.length, ← lim_eq]; exact hl, fun z => ?_, fun _ z => ?_, fun _ _ p hp => ?_⟩))
      · subst z
        cases s1
        exact q _ _ (fin_sh g (.tup h2 s2))
      · subst z
        cases s2
        rw [List.append_nil] at q
        exact q _ _ (fin_sh g (.tup h1 s1))
      · exact q _ _ (fin_tup g hp (s1.append s2))
    · cases e
  · rename_i xs ys e1 e2
    split at e
    · rename_i hl
      cases e
      obtain ⟨a, vs, rfl, h1, s1⟩ := w1.lst_v e1 g.fh
      obtain ⟨b, ws, rfl, h2, s2⟩ := w2.lst_v e2 g.fh
      exact .inr (.inr (.inr ⟨a, b, vs, ws, rfl, rfl, h1, h2, by rw [s1.length, s2.length, ← lim_eq]; exact hl, fun p hp => q _ _ (fin_lst g hp (s1.append s2))⟩))
    · cases e
  · cases e

/-! ### ints -/
def liftI (f : Int → Int → Option Int) : D → D → Option O
  | .int i, .int j => match f i j with
    | some k => some (.sh (.int k))
    | none => none
  | _, _ => none
theorem op2_int {κ : Kx} {r : R2} {f : Int → Int → Option Int} (h : ∀ i j k H (Q : VK), f i j = some k → Q (.int k) H → r (.int i) (.int j) H Q) : Op2 κ r (liftI f) := by
  intro A F H ρ σ τ υ g o1 o2 v1 v2 B1 B2 w1 w2 o e Q q
  unfold liftI at e
  split at e
  · rename_i i j e1 e2
    split at e
    · rename_i k ek
      cases e
      rw [w1.int_v e1 g.fh, w2.int_v e2 g.fh]
      exact h i j k H Q ek (q _ _ (fin_sh g (.int _)))
    · cases e
  · cases e
def liftB (f : Int → Int → Bool) : D → D → Option O
  | .int i, .int j => some (.sh (.bl (f i j)))
  | _, _ => none
theorem op2_bl {κ : Kx} {r : R2} {f : Int → Int → Bool} (h : ∀ i j H (Q : VK), Q (.bl (f i j)) H → r (.int i) (.int j) H Q) : Op2 κ r (liftB f) := by
  intro A F H ρ σ τ υ g o1 o2 v1 v2 B1 B2 w1 w2 o e Q q
  unfold liftB at e
  split at e
  · rename_i i j e1 e2
    cases e
    rw [w1.int_v e1 g.fh, w2.int_v e2 g.fh]
    exact h i j H Q (q _ _ (fin_sh g (.bl _)))
  · cases e
theorem rI_of {C : Int → Int → Prop} {gf : Int → Int → V} {i j : Int} {H : Hp} {Q : VK} (hc : C i j) (q : Q (gf i j) H) : rI C gf (.int i) (.int j) H Q := ⟨i, j, rfl, rfl, hc, q⟩
theorem rI0_of {gf : Int → Int → V} {i j : Int} {H : Hp} {Q : VK} (q : Q (gf i j) H) : rI0 gf (.int i) (.int j) H Q := ⟨i, j, rfl, rfl, q⟩

def subI (i j : Int) : Option Int := some (i - j)
def P512 : Nat := 2 ^ 512
def mulI (i j : Int) : Option Int := if i.natAbs < P512 ∧ j.natAbs < P512 then some (i * j) else none
def divI (i j : Int) : Option Int := if 0 < j ∧ j.natAbs < P512 then some (i / j) else none
def modI (i j : Int) : Option Int := if 0 < j then some (i % j) else none
def powI (i j : Int) : Option Int := if 0 ≤ j ∧ j ≤ 1000000 ∧ i.natAbs < 18446744073709551616 then some (i ^ j.toNat) else none
def shlI (i j : Int) : Option Int := if 0 ≤ j ∧ j ≤ 1000000 ∧ i.natAbs < 18446744073709551616 then some (i * 2 ^ j.toNat) else none
def shrI (i j : Int) : Option Int := if 0 ≤ j then some (i / 2 ^ j.toNat) else none
def andI (i j : Int) : Option Int := some (Builtin.bitAnd i j)
def orI (i j : Int) : Option Int := some (Builtin.bitOr i j)
def xorI (i j : Int) : Option Int := some (Builtin.bitXor i j)
theorem sub_sem {κ : Kx} : Op2 κ (rI0 fun i j => .int (i - j)) (liftI subI) := op2_int fun i j k H Q e q => by cases e; exact rI0_of q
theorem and_sem {κ : Kx} : Op2 κ (rI0 fun i j => .int (Builtin.bitAnd i j)) (liftI andI) := op2_int fun i j k H Q e q => by cases e; exact rI0_of q
theorem or_sem {κ : Kx} : Op2 κ (rI0 fun i j => .int (Builtin.bitOr i j)) (liftI orI) := op2_int fun i j k H Q e q => by cases e; exact rI0_of q
theorem xor_sem {κ : Kx} : Op2 κ (rI0 fun i j => .int (Builtin.bitXor i j)) (liftI xorI) := op2_int fun i j k H Q e q => by cases e; exact rI0_of q
theorem log512 {n : Nat} (h : n < P512) : n.log2 < 512 := PySem.Flt.log2_lt_of (by decide) h
theorem mul_semI {κ : Kx} : Op2 κ (rI CMulW fun i j => .int (i * j)) (liftI mulI) := op2_int fun i j k H Q e q => by
  unfold mulI at e
  split at e
  · rename_i hc
    cases e
    exact rI_of (wide_mul (a := 512) (b := 512) hc.1 hc.2 (by decide) (by decide) (by decide)) q
  · cases e
theorem div_sem {κ : Kx} : Op2 κ (rI CDivW fun i j => .int (i / j)) (liftI divI) := op2_int fun i j k H Q e q => by
  unfold divI at e
  split at e
  · rename_i hc
    cases e
    exact rI_of ⟨hc.1, Nat.lt_trans (log512 hc.2) (by decide)⟩ q
  · cases e
theorem mod_sem {κ : Kx} : Op2 κ (rI (fun _ j => 0 < j) fun i j => .int (i % j)) (liftI modI) := op2_int fun i j k H Q e q => by
  unfold modI at e
  split at e
  · rename_i hc
    cases e
    exact rI_of hc q
  · cases e
theorem pow_sem {κ : Kx} : Op2 κ (rI CPow fun i j => .int (i ^ j.toNat)) (liftI powI) := op2_int fun i j k H Q e q => by
  unfold powI at e
  split at e
  · rename_i hc
    cases e
    exact rI_of ⟨hc.1, hc.2.1, hc.2.2⟩ q
  · cases e
theorem shl_sem {κ : Kx} : Op2 κ (rI CPow fun i j => .int (i * 2 ^ j.toNat)) (liftI shlI) := op2_int fun i j k H Q e q => by
  unfold shlI at e
  split at e
  · rename_i hc
    cases e
    exact rI_of ⟨hc.1, hc.2.1, hc.2.2⟩ q
  · cases e
theorem shr_sem {κ : Kx} : Op2 κ (rI (fun _ j => 0 ≤ j) fun i j => .int (i / 2 ^ j.toNat)) (liftI shrI) := op2_int fun i j k H Q e q => by
  unfold shrI at e
  split at e
  · rename_i hc
    cases e
    exact rI_of hc q
  · cases e
theorem lt_sem {κ : Kx} : Op2 κ (rI0 fun i j => .bl (decide (i < j))) (liftB fun i j => decide (i < j)) := op2_bl fun i j H Q q => rI0_of q
theorem le_sem {κ : Kx} : Op2 κ (rI0 fun i j => .bl (decide (i ≤ j))) (liftB fun i j => decide (i ≤ j)) := op2_bl fun i j H Q q => rI0_of q
theorem gt_sem {κ : Kx} : Op2 κ (rI0 fun i j => .bl (decide (j < i))) (liftB fun i j => decide (j < i)) := op2_bl fun i j H Q q => rI0_of q
theorem ge_sem {κ : Kx} : Op2 κ (rI0 fun i j => .bl (decide (j ≤ i))) (liftB fun i j => decide (j ≤ i)) := op2_bl fun i j H Q q => rI0_of q

/-! ### == of data -/
mutual
def toPy : D → Option PyData
  | .non => some .none
  | .bl b => some (.bool b)
  | .int i => some (.int i)
  | .str x => some (.str x)
  | .tup xs => match toPys xs with
    | some ys => some (.tuple ys)
    | none => none
  | .lst xs => match toPys xs with
    | some ys => some (.list ys)
    | none => none
  | _ => none
def toPys : List D → Option (List PyData)
  | [] => some []
  | x :: xs => match toPy x, toPys xs with
    | some y, some ys => some (y :: ys)
    | _, _ => none
end
mutual
theorem Rep.dp {κ : Kx} {F : Hp} : ∀ {v : V} {d : D} {p : PyData}, Rep κ F v d → toPy d = some p → Dp κ.K F v p
  | _, _, _, .non, e => by simp only [toPy] at e; cases e; exact .non
  | _, _, _, .bl b, e => by simp only [toPy] at e; cases e; exact .bl b
  | _, _, _, .int i, e => by simp only [toPy] at e; cases e; exact .int i
  | _, _, _, .str x, e => by simp only [toPy] at e; cases e; exact .str x
  | _, _, _, .tup h r, e => by
    simp only [toPy] at e
    split at e
    · rename_i ys ey; cases e; exact .tup (SqT.of h) (Reps.dp r ey)
    · cases e
  | _, _, _, .lst h r, e => by
    simp only [toPy] at e
    split at e
    · rename_i ys ey; cases e; exact .lst (.inl (.inl h)) (Reps.dp r ey)
    · cases e
  | _, _, _, .fz _ _, e => by simp only [toPy] at e; cases e
  | _, _, _, .dk _ _, e => by simp only [toPy] at e; cases e
  | _, _, _, .dt _ _, e => by simp only [toPy] at e; cases e
  | _, _, _, .ob _ _ _, e => by simp only [toPy] at e; cases e
theorem Reps.dp {κ : Kx} {F : Hp} : ∀ {vs : List V} {ds : List D} {ps : List PyData}, Reps κ F vs ds → toPys ds = some ps → DpAll κ.K F vs ps
  | _, _, _, .nil, e => by simp only [toPys] at e; cases e; exact .nil
  | _, _, _, .cons h r, e => by
    simp only [toPys] at e
    split at e
    · rename_i y ys e1 e2; cases e; exact .cons (Rep.dp h e1) (Reps.dp r e2)
    · cases e
end
def eqD (a b : D) : Option Bool := match toPy a, toPy b with
  | some p, some q => if SeqAt.shaped p && SeqAt.shaped q then some (PyData.eqv p q) else none
  | _, _ => none
def eqO (a b : D) : Option O := match eqD a b with
  | some c => some (.sh (.bl c))
  | none => none
def neO (a b : D) : Option O := match eqD a b with
  | some c => some (.sh (.bl (!c)))
  | none => none
theorem eqD_of {a b : D} {c : Bool} (h : eqD a b = some c) : ∃ p q, toPy a = some p ∧ toPy b = some q ∧ SeqAt.shaped p = true ∧ SeqAt.shaped q = true ∧ c = PyData.eqv p q := by
  unfold eqD at h
  split at h
  · rename_i p q e1 e2
    split at h
    · rename_i hc
      cases h
      obtain ⟨h1, h2⟩ := Bool.and_eq_true_iff.mp hc
      exact ⟨p, q, e1, e2, h1, h2, rfl⟩
    · cases h
  · cases h
theorem eq_sem {κ : Kx} : Op2 κ (rEqD κ.K) eqO := by
  intro A F H ρ σ τ υ g o1 o2 v1 v2 B1 B2 w1 w2 o e Q q
  unfold eqO at e
  split at e
  · rename_i c ec
    cases e
    obtain ⟨p, p', h1, h2, h3, h4, rfl⟩ := eqD_of ec
    exact ⟨p, p', (w1.repH g.fh).dp h1, (w2.repH g.fh).dp h2, h3, h4, q _ _ (fin_sh g (.bl _))⟩
  · cases e
theorem ne_sem {κ : Kx} : Op2 κ (rNeD κ.K) neO := by
  intro A F H ρ σ τ υ g o1 o2 v1 v2 B1 B2 w1 w2 o e Q q
  unfold neO at e
  split at e
  · rename_i c ec
    cases e
    obtain ⟨p, p', h1, h2, h3, h4, rfl⟩ := eqD_of ec
    exact ⟨p, p', (w1.repH g.fh).dp h1, (w2.repH g.fh).dp h2, h3, h4, q _ _ (fin_sh g (.bl _))⟩
  · cases e

/-! ### is -/
def isD : D → D → Option Bool
  | .non, .non => some true
  | .bl a, .bl b => some (decide (a = b))
  | .ob _ _ _, .non | .tup _, .non | .lst _, .non | .int _, .non | .bl _, .non | .str _, .non | .dk _ _, .non | .dt _ _, .non => some false
  | _, _ => none
def isO (a b : D) : Option O := match isD a b with
  | some c => some (.sh (.bl c))
  | none => none
def isnO (a b : D) : Option O := match isD a b with
  | some c => some (.sh (.bl (!c)))
  | none => none
def rIs : R2 := fun x y H Q => (y = .non ∧ Q (.bl (decide (x = .non))) H) ∨ ∃ a b, x = .bl a ∧ y = .bl b ∧ Q (.bl (decide (a = b))) H
def rIsn : R2 := fun x y H Q => (y = .non ∧ Q (.bl (!decide (x = .non))) H) ∨ ∃ a b, x = .bl a ∧ y = .bl b ∧ Q (.bl (!decide (a = b))) H
theorem op_isA {X : Cx} : OpR X (compareOp .Is) rIs := op_isN.or op_is_bl
theorem op_isnA {X : Cx} : OpR X (compareOp .IsNot) rIsn := op_notN.or op_isnot_bl
theorem Rep.isN {κ : Kx} {F : Hp} {v : V} {d : D} (r : Rep κ F v d) : (v = .non) ↔ d = .non := by
  cases r <;> constructor <;> intro h <;> first | rfl | cases h
theorem isD_of {κ : Kx} {F : Hp} {x y : V} {a b : D} {c : Bool} (r1 : Rep κ F x a) (r2 : Rep κ F y b) (h : isD a b = some c) : (y = .non ∧ c = decide (x = .non)) ∨ ∃ p q, x = .bl p ∧ y = .bl q ∧ c = decide (p = q) := by
  unfold isD at h
  split at h
  · cases h
    exact .inl ⟨r2.isN.mpr rfl, by rw [decide_eq_true (r1.isN.mpr rfl)]⟩
  · cases h
    exact .inr ⟨_, _, r1.bl_v, r2.bl_v, rfl⟩
  all_goals first
    | (cases h; exact .inl ⟨r2.isN.mpr rfl, by rw [decide_eq_false (fun z => nomatch r1.isN.mp z)]⟩)
    | cases h
theorem is_sem {κ : Kx} : Op2 κ rIs isO := by
  intro A F H ρ σ τ υ g o1 o2 v1 v2 B1 B2 w1 w2 o e Q q
  unfold isO at e
  split at e
  · rename_i c ec
    cases e
    rcases isD_of (w1.repH g.fh) (w2.repH g.fh) ec with ⟨h1, rfl⟩ | ⟨a, b, h1, h2, rfl⟩
    · exact .inl ⟨h1, q _ _ (fin_sh g (.bl _))⟩
    · exact .inr ⟨a, b, h1, h2, q _ _ (fin_sh g (.bl _))⟩
  · cases e
theorem isn_sem {κ : Kx} : Op2 κ rIsn isnO := by
  intro A F H ρ σ τ υ g o1 o2 v1 v2 B1 B2 w1 w2 o e Q q
  unfold isnO at e
  split at e
  · rename_i c ec
    cases e
    rcases isD_of (w1.repH g.fh) (w2.repH g.fh) ec with ⟨h1, rfl⟩ | ⟨a, b, h1, h2, rfl⟩
    · exact .inl ⟨h1, q _ _ (fin_sh g (.bl _))⟩
    · exact .inr ⟨a, b, h1, h2, q _ _ (fin_sh g (.bl _))⟩
  · cases e
end DL

end

section
set_option Elab.async false
set_option linter.all false
set_option maxRecDepth 100000
/-! DL, part D: conversions, names, displays, fields, subscripts, tests. -/
namespace DL
open PySem L2
def mMap {α β : Type} (f : α → β) (m : M α) : M β := fun ρ => match m ρ with
  | .bad => .bad
  | .ok a ρ' => .ok (f a) ρ'
  | .exc e ρ' => .exc e ρ'
section
variable {κ : Kx} {W : WX'} {A A1 : Fp} {F F1 H H1 : Hp} {σ : L2.St} {τ : List O} {υ : List V} {α β : Type}
theorem Wp.map {m : M α} {f : α → β} {ρ : Env} {q : β → Env → Prop} (h : Wp κ W A F H σ τ υ (mMap f m ρ) q) : Wp κ W A F H σ τ υ (m ρ) fun a ρ1 => q (f a) ρ1 := by
  unfold mMap at h
  cases e : m ρ with
  | bad => rw [e] at h; exact h
  | ok a ρ' => rw [e] at h; exact h
  | exc x ρ' => rw [e] at h; exact h
end

/-! ### conversions -/
section
variable {X : Cx} {κ : Kx} {W : WX'} {e : Expr} {p : Bool}
theorem dV_E {m : M O} (h : PE X e (tE κ W p m)) : PE X e (tV κ W p (mMap O.toD m)) := pe_imp h fun σ H Q ⟨A, F, ρ, τ, υ, g, h⟩ => by
  refine ⟨A, F, ρ, τ, υ, g, h.map.imp fun r ρ' h v A' F' H' s g' => ?_⟩
  obtain ⟨F2, g2, f2, r2⟩ := g'.freezeT
  obtain ⟨g3, _, f3⟩ := g2.pop
  exact h v _ F2 H' (s.then (f2.trans f3) (Same.refl _) fun i => by rw [upA_t, upA_t]) g3 r2
theorem dE_V {m : M D} (h : PE X e (tV κ W p m)) : PE X e (tE κ W p (mMap O.sh m)) := pe_imp h fun σ H Q ⟨A, F, ρ, τ, υ, g, h⟩ => by
  refine ⟨A, F, ρ, τ, υ, g, h.map.imp fun r ρ' h v A' F' H' s g' rp => ?_⟩
  exact h v _ F' H' (s.then (g'.pushSh rp).2 (Same.refl _) fun i => upA_t i) (g'.pushSh rp).1
theorem dB_V {m : M D} (h : PE X e (tV κ W p m)) : PE X e (tB κ W p (mMap (fun d => (none, .sh d)) m)) := pe_imp h fun σ H Q ⟨A, F, ρ, τ, υ, g, h⟩ =>
  ⟨A, F, ρ, τ, υ, g, h.map.imp fun r ρ' h v A' F' H' s g' rp => h v [] A' F' H' s g' (.fd (.sh rp)) fun b hb => absurd hb (by simp)⟩
theorem dB_E {m : M O} (h : PE X e (tE κ W p m)) : PE X e (tB κ W p (mMap (fun o => (none, o)) m)) := pe_imp h fun σ H Q ⟨A, F, ρ, τ, υ, g, h⟩ => by
  refine ⟨A, F, ρ, τ, υ, g, h.map.imp fun r ρ' h v A' F' H' s g' => ?_⟩
  obtain ⟨g2, w, f2⟩ := g'.pop
  refine h v _ _ F' H' (s.then f2 (Same.refl _) fun i => upA_t i) g2 w fun b hb x hx => ?_
  · by_cases q : x = .t τ.length
    · subst q; rw [upA_same] at hx; simp at hx
    · rw [upA_ne q] at hx
      exact g'.dj _ _ b (Ne.symm q) hb hx
def asSh : Option Nat × O → M D
  | (_, .fd (.sh d)) => mPure d
  | _ => fun _ => .bad
theorem dV_B {m : M (Option Nat × O)} (h : PE X e (tB κ W p m)) : PE X e (tV κ W p (mBind m asSh)) := pe_imp h fun σ H Q ⟨A, F, ρ, τ, υ, g, h⟩ => by
  refine ⟨A, F, ρ, τ, υ, g, h.bind.imp fun r ρ' h v B A' F' H' s g' w _ => ?_⟩
  obtain ⟨z, o⟩ := r
  cases w with
  | fd w =>
    cases w with
    | sh rp => exact h v A' F' H' s g' rp
    | ct _ => exact h.elim
  | ob _ _ _ => exact h.elim
  | dk _ _ => exact h.elim
theorem dT_V {m : M D} (h : PE X e (tV κ W p m)) (he : ∀ whole, isTrue e X.env whole = (do let v ← whole; standAt e.pos; holding [v] (truthy v)) := by intro _; rfl) :
    PT X e (tT κ W p (mBind m fun d => match d with | .bl b => mPure b | _ => fun _ => .bad)) := pt_imp (pt_val h he) fun σ H Q ⟨A, F, ρ, τ, υ, g, h⟩ => by
  refine ⟨A, F, ρ, τ, υ, g, h.bind.imp fun r ρ' h v A' F' H' s g' rp => ?_⟩
  cases r with
  | bl b => exact ⟨b, rp.bl_v, h A' F' H' s g'⟩
  | _ => exact h.elim
/-- a smaller claim of purity -/
theorem dE_no {m : M O} (h : PE X e (tE κ W p m)) : PE X e (tE κ W false m) := pe_imp h fun σ H Q ⟨A, F, ρ, τ, υ, g, h⟩ =>
  ⟨A, F, ρ, τ, υ, g, h.imp fun r ρ' h v A' F' H' s g' => h v A' F' H' (.no s.fr) g'⟩
end

/-! ### names and constants -/
def mNameB (i : Nat) : M (Option Nat × O) := fun ρ => match ρ[i]? with
  | some (some o) => .ok (some i, o) ρ
  | _ => .bad
/-- shared data of a slot -/
def mNameS (i : Nat) : M D := fun ρ => match ρ[i]? with
  | some (some (.fd (.sh d))) => .ok d ρ
  | _ => .bad
/-- .. frozen, if it is owned -/
def mNameV (i : Nat) : M D := fun ρ => match ρ[i]? with
  | some (some o) => .ok o.toD (ρ.set i (some (.sh o.toD)))
  | _ => .bad
/-- .. moved -/
def mNameM (i : Nat) : M O := fun ρ => match ρ[i]? with
  | some (some o) => .ok o (ρ.set i none)
  | _ => .bad
section
variable {X : Cx} {κ : Kx} {W : WX'} {i : Nat} {x : Str} {pos : Pos}
theorem G.slot {A : Fp} {F H : Hp} {ρ : Env} {σ : L2.St} {τ : List O} {υ : List V} (g : G κ A F H ρ σ τ υ) {o : O} (h : ρ[i]? = some (some o)) : ∃ v, σ[i]? = some (some v) ∧ Own κ F H o v (A (.s i)) := by
  obtain ⟨v, h1, h2⟩ := g.own (.s i) o (by simp [atO, h])
  refine ⟨v, ?_, h2⟩
  cases e : σ[i]? with
  | none => simp [atV, e] at h1
  | some u => simp [atV, e] at h1; rw [h1]
theorem dB_name (h : PE X (.Name x pos) (tVar i)) : PE X (.Name x pos) (tB κ W true (mNameB i)) := pe_imp h fun σ H Q ⟨A, F, ρ, τ, υ, g, h⟩ => by
  unfold mNameB at h
  split at h
  · rename_i o e
    obtain ⟨v, h1, h2⟩ := g.slot e
    refine ⟨v, h1, h v _ A F H .refl g h2 fun b hb => ⟨⟨o, e, ?_⟩, hb⟩⟩
    cases q : isSh o with
    | false => rfl
    | true =>
      obtain ⟨d, rfl, _⟩ := isSh_v q h2
      rw [h2.sh_nil] at hb
      simp at hb
  · exact h.elim
theorem dV_nameS (h : PE X (.Name x pos) (tVar i)) : PE X (.Name x pos) (tV κ W true (mNameS i)) := pe_imp h fun σ H Q ⟨A, F, ρ, τ, υ, g, h⟩ => by
  unfold mNameS at h
  split at h
  · rename_i d e
    obtain ⟨v, h1, h2⟩ := g.slot e
    exact ⟨v, h1, h v A F H .refl g h2.sh_v⟩
  · exact h.elim
theorem dV_nameV (h : PE X (.Name x pos) (tVar i)) : PE X (.Name x pos) (tV κ W false (mNameV i)) := pe_imp h fun σ H Q ⟨A, F, ρ, τ, υ, g, h⟩ => by
  unfold mNameV at h
  split at h
  · rename_i o e
    obtain ⟨F', g', f', v, h1, h2⟩ := g.freeze e
    exact ⟨v, h1, h v _ F' H (.no f') g' h2⟩
  · exact h.elim
theorem dE_nameM (h : PE X (.Name x pos) (tVar i)) : PE X (.Name x pos) (tE κ W false (mNameM i)) := pe_imp h fun σ H Q ⟨A, F, ρ, τ, υ, g, h⟩ => by
  unfold mNameM at h
  split at h
  · rename_i o e
    obtain ⟨v, h1, _⟩ := g.slot e
    obtain ⟨g', f'⟩ := g.move e h1
    exact ⟨v, h1, h v _ F H (.no f') g'⟩
  · exact h.elim
theorem dV_c {e : Expr} {v : V} {d : D} (h : PE X e (tC v)) (r : ∀ F, Rep κ F v d) : PE X e (tV κ W true (mPure d)) := pe_imp h fun σ H Q ⟨A, F, ρ, τ, υ, g, h⟩ => h v A F H .refl g (r F)
theorem dV_int {j : Int} {k : Nat} : PE X (.Constant (.int j) k pos) (tV κ W true (mPure (.int j))) := dV_c pe_int fun _ => .int _
theorem dV_bl {b : Bool} {k : Nat} : PE X (.Constant (.bool b) k pos) (tV κ W true (mPure (.bl b))) := dV_c pe_bl fun _ => .bl _
theorem dV_non {k : Nat} : PE X (.Constant .none k pos) (tV κ W true (mPure .non)) := dV_c pe_non fun _ => .non
theorem dV_str {z : Str} {k : Nat} : PE X (.Constant (.str z) k pos) (tV κ W true (mPure (.str z))) := dV_c pe_str fun _ => .str _
end

/-! ### rows, displays -/
def mCons (m : M D) (ms : M (List D)) : M (List D) := mBind m fun d => mBind ms fun ds => mPure (d :: ds)
def mTup (ms : M (List D)) : M D := mBind ms fun ds => if ds.length ≤ lim then mPure (.tup ds) else fun _ => .bad
def mLst (ms : M (List D)) : M O := mBind ms fun ds => if ds.length ≤ lim then mPure (.lst ds) else fun _ => .bad
def mConsB (pt : Bool) (m : M (Option Nat × O)) (ms : M (List (Option Nat × O))) : M (List (Option Nat × O)) := mBind m fun x => if pt || isSh x.2 then mBind ms fun xs => mPure (x :: xs) else fun _ => .bad
section
variable {X : Cx} {κ : Kx} {W : WX'} {e : Expr} {es : List Expr} {p q : Bool} {pos : Pos}
theorem pa_imp {t t' : TA} (h : PA X es t) (i : ∀ σ H Q, t' σ H Q → t σ H Q) : PA X es t' := ⟨fun pos pins s σ H Q I q => h.run pos pins s σ H Q I (i σ H Q q)⟩
theorem dVs_nil : PA X [] (tVs κ W true (mPure [])) := pa_imp pa_nil fun σ H Q ⟨A, F, ρ, τ, υ, g, h⟩ => h [] A F H .refl g .nil
theorem dVs_cons {m : M D} {ms : M (List D)} (h1 : PE X e (tV κ W p m)) (h2 : PA X es (tVs κ W q ms)) (hs : starEach (e :: es) X.env = (false, eval e X.env) :: starEach es X.env := by rfl) : PA X (e :: es) (tVs κ W (p && q) (mCons m ms)) :=
  pa_imp (pa_cons h1 h2 hs) fun σ H Q ⟨A, F, ρ, τ, υ, g, h⟩ =>
    ⟨A, F, ρ, τ, υ, g, h.bind.imp fun d ρ1 h v A1 F1 H1 s1 g1 r1 => ⟨A1, F1, ρ1, τ, υ, g1, (h.step s1.fr).bind.imp fun ds ρ2 h vs A2 F2 H2 s2 g2 r2 => h (v :: vs) A2 F2 H2 (s1.trans s2) g2 (.cons (r1.mono s2.fr.grow) r2)⟩⟩
theorem dV_tup {k : Nat} {ms : M (List D)} (h : PA X es (tVs κ W p ms)) : PE X (.Tuple es k pos) (tV κ W p (mTup ms)) := pe_imp (pe_tup h) fun σ H Q ⟨A, F, ρ, τ, υ, g, h⟩ =>
  ⟨A, F, ρ, τ, υ, g, h.bind.imp fun ds ρ' h vs A' F' H' s g' r => by
    split at h
    · rename_i hl
      refine ⟨by rw [r.length, ← lim_eq]; exact hl, fun a ha => ?_⟩
      obtain ⟨g2, f2⟩ := g'.share (.tup vs) ha
      exact h (.ref a) A' _ _ (s.then f2 (same_new ha) fun _ => rfl) g2 (.tup upd_same (r.mono f2.grow))
    · exact h.elim⟩
theorem dE_lst {ms : M (List D)} (h : PA X es (tVs κ W p ms)) : PE X (.List es pos) (tE κ W p (mLst ms)) := pe_imp (pe_lst h) fun σ H Q ⟨A, F, ρ, τ, υ, g, h⟩ =>
  ⟨A, F, ρ, τ, υ, g, h.bind.imp fun ds ρ' h vs A' F' H' s g' r => by
    split at h
    · rename_i hl
      refine ⟨by rw [r.length, ← lim_eq]; exact hl, fun a ha => ?_⟩
      obtain ⟨A2, F2, s2, g2⟩ := fin_lst g' ha r
      exact h (.ref a) A2 F2 _ ((s.trans s2).imp fun z => by rw [z]; rfl) g2
    · exact h.elim⟩
theorem Stp.srcs {p : Bool} {ρ ρ' : Env} {A A' : Fp} {F F' H H' : Hp} (s : Stp p ρ A F H ρ' A' F' H') : ∀ b, H b ≠ none → ∀ x, b ∈ A' x → ∃ y, b ∈ A y := fun b n x hx => by
  rcases s.fr.new x b hx with h | h
  · exact h
  · exact absurd h n
theorem Src.stay {κ : Kx} {p : Bool} {ρ ρ' : Env} {A A' : Fp} {F F' H H' : Hp} {z : Option Nat} {o : O} {v : V} {B : List Addr} (w : Own κ F H o v B) (sr : Src ρ A z B) (s : Stp p ρ A F H ρ' A' F' H') (q : p = true) : Src ρ' A' z B := by
  cases z with
  | some i =>
    intro b hb
    obtain ⟨h1, h2⟩ := sr b hb
    obtain ⟨h3, h4⟩ := (s.pu q).2 i h1
    exact ⟨h3, h4 b h2⟩
  | none =>
    intro b hb x hx
    obtain ⟨u, hu, _⟩ := w.there b hb
    obtain ⟨y, hy⟩ := s.srcs b (by rw [hu]; simp) x hx
    exact sr b hb y hy
theorem Src.sh {ρ : Env} {A : Fp} {z : Option Nat} : Src ρ A z [] := by
  cases z <;> intro b hb <;> simp at hb
theorem dBs_nil : PA X [] (tBs κ W true (mPure [])) := pa_imp pa_nil fun σ H Q ⟨A, F, ρ, τ, υ, g, h⟩ => h [] A F H .refl g .nil
theorem dBs_cons {m : M (Option Nat × O)} {ms : M (List (Option Nat × O))} (h1 : PE X e (tB κ W p m)) (h2 : PA X es (tBs κ W q ms)) (hs : starEach (e :: es) X.env = (false, eval e X.env) :: starEach es X.env := by rfl) : PA X (e :: es) (tBs κ W (p && q) (mConsB q m ms)) :=
  pa_imp (pa_cons h1 h2 hs) fun σ H Q ⟨A, F, ρ, τ, υ, g, h⟩ =>
    ⟨A, F, ρ, τ, υ, g, h.bind.imp fun x ρ1 h v B A1 F1 H1 s1 g1 w1 sr => by
      split at h
      · rename_i hc
        refine ⟨A1, F1, ρ1, τ, υ, g1, (h.step s1.fr).bind.imp fun xs ρ2 h vs A2 F2 H2 s2 g2 w2 => ?_⟩
        rcases Bool.or_eq_true_iff.mp hc with z | z
        · exact h (v :: vs) A2 F2 H2 (s1.trans s2) g2 (.cons (w1.mono s2.fr.grow fun b _ o e => (s2.pu z).1 b o e) (Src.stay w1 sr s2 z) w2)
        · obtain ⟨j, o⟩ := x
          obtain ⟨d, e, r⟩ := isSh_v z w1
          have e' : o = .sh d := e
          subst e'
          exact h (v :: vs) A2 F2 H2 (s1.trans s2) g2 (.cons (.fd (.sh (r.mono s2.fr.grow))) Src.sh w2)
      · exact h.elim⟩
end

/-! ### fields -/
/-- a program's classes: which fields are plain -/
def FieldsOk (κ : Kx) (tbl : Str → Str → Bool) : Prop := ∀ c f, tbl c f = true → ∀ C, κ.mg c = some (.ref C) → Cls κ.K C ∧ NoAttr κ.K C f
def lookD {α : Type} : List Str → List α → Str → Option α
  | n :: ns, v :: vs, f => if f = n then some v else lookD ns vs f
  | _, _, _ => none
/-- a field of what is looked at -/
def fieldOf (tbl : Str → Str → Bool) (f : Str) : Option Nat × O → M (Option Nat × O)
  | (_, .fd (.sh (.ob c ns vs))) => if tbl c f = true then match lookD ns vs f with
    | some d => mPure (none, .sh d)
    | none => fun _ => .bad
    else fun _ => .bad
  | (z, .rc (.ob c ns) fs) => if tbl c f = true then match lookD ns fs f with
    | some (.sh d) => mPure (none, .sh d)
    | some (.ct k) => mPure (z, .fd (.ct k))
    | none => fun _ => .bad
    else fun _ => .bad
  | _ => fun _ => .bad
theorem lookup_reps {κ : Kx} {F : Hp} {f : Str} {d : D} : ∀ {fs : List (Str × V)} {ds : List D}, Reps κ F (fs.map (·.2)) ds → lookD (fs.map (·.1)) ds f = some d → ∃ v, fs.lookup f = some v ∧ Rep κ F v d
  | [], _, _, e => by simp [lookD] at e
  | (n, v) :: fs, ds, r, e => by
    cases r with
    | cons h r =>
      simp only [List.map_cons, lookD] at e
      by_cases q : f = n
      · rw [if_pos q] at e
        cases e
        subst q
        exact ⟨v, by simp, h⟩
      · rw [if_neg q] at e
        obtain ⟨u, h1, h2⟩ := lookup_reps r e
        refine ⟨u, ?_, h2⟩
        have q' : (f == n) = false := by simpa using q
        rw [List.lookup_cons, q']
        exact h1
theorem lookup_owns {κ : Kx} {F H : Hp} {f : Str} {d : Fd} : ∀ {fs : List (Str × V)} {gs : List Fd} {T : List Addr}, OwnFs κ F H gs (fs.map (·.2)) T → lookD (fs.map (·.1)) gs f = some d → ∃ v S, fs.lookup f = some v ∧ OwnF κ F H d v S ∧ ∀ b ∈ S, b ∈ T
  | [], _, _, _, e => by simp [lookD] at e
  | (n, v) :: fs, ds, T, r, e => by
    cases r with
    | cons h r =>
      simp only [List.map_cons, lookD] at e
      by_cases q : f = n
      · rw [if_pos q] at e
        cases e
        subst q
        exact ⟨v, _, by simp, h, fun b hb => List.mem_append_left _ hb⟩
      · rw [if_neg q] at e
        obtain ⟨u, S, h1, h2, h3⟩ := lookup_owns r e
        refine ⟨u, S, ?_, h2, fun b hb => List.mem_append_right _ (h3 b hb)⟩
        have q' : (f == n) = false := by simpa using q
        rw [List.lookup_cons, q']
        exact h1
theorem Own.ob_v {κ : Kx} {F H : Hp} {c : Str} {ns : List Str} {gs : List Fd} {v : V} {B : List Addr} (w : Own κ F H (.rc (.ob c ns) gs) v B) :
    ∃ a C dx fs T, v = .ref a ∧ H a = some (.ins C dx fs) ∧ κ.mg c = some (.ref C) ∧ fs.map (·.1) = ns ∧ OwnFs κ F H gs (fs.map (·.2)) T ∧ B = a :: T := by
  cases w with
  | ob h m q => exact ⟨_, _, _, _, _, rfl, h, m, rfl, q, rfl⟩
theorem Own.dk_v {κ : Kx} {F H : Hp} {ks : List Key} {gs : List Fd} {v : V} {B : List Addr} (w : Own κ F H (.rc (.dk ks) gs) v B) :
    ∃ a kvs T, v = .ref a ∧ H a = some (.dK kvs) ∧ kvs.map (·.1) = ks ∧ OwnFs κ F H gs (kvs.map (·.2)) T ∧ B = a :: T := by
  cases w with
  | dk h q => exact ⟨_, _, _, rfl, h, rfl, q, rfl⟩
theorem OwnF.sh_v {κ : Kx} {F H : Hp} {d : D} {v : V} {B : List Addr} (w : OwnF κ F H (.sh d) v B) : Rep κ F v d := by
  cases w with
  | sh r => exact r
theorem Src.sub {ρ : Env} {A : Fp} {z : Option Nat} {B B' : List Addr} (h : Src ρ A z B) (s : ∀ b ∈ B', b ∈ B) : Src ρ A z B' := by
  cases z with
  | some i => exact fun b hb => h b (s b hb)
  | none => exact fun b hb => h b (s b hb)
section
variable {X : Cx} {W : WX'} {e : Expr} {p : Bool} {pos : Pos} {f : Str}
theorem dB_fld {tbl : Str → Str → Bool} {m : M (Option Nat × O)} (ht : FieldsOk (kx X) tbl) (h : PE X e (tB (kx X) W p m)) (hb : attributeBase e f X.env (eval e X.env) = eval e X.env := by rfl) : PE X (.Attribute e f pos) (tB (kx X) W p (mBind m (fieldOf tbl f))) :=
  pe_imp (pe_fld h hb) fun σ H Q ⟨A, F, ρ, τ, υ, g, h⟩ => by
    refine ⟨A, F, ρ, τ, υ, g, h.bind.imp fun x ρ1 h v B A1 F1 H1 s1 g1 w sr => ?_⟩
    unfold fieldOf at h
    split at h
    · rename_i z c ns vs
      split at h
      · rename_i e1
        cases e2 : lookD ns vs f with
        | none => rw [e2] at h; exact h.elim
        | some d =>
          rw [e2] at h
          obtain ⟨a, C, dx, fs, rfl, h1, h2, rfl, r⟩ := w.sh_v.ob_v
          obtain ⟨u, h3, h4⟩ := lookup_reps r e2
          obtain ⟨c1, c2⟩ := ht c f e1 C h2
          exact ⟨a, C, dx, fs, u, rfl, g1.fh _ _ h1, c1, c2, h3, h u [] A1 F1 H1 s1 g1 (.fd (.sh h4)) Src.sh⟩
      · exact h.elim
    · rename_i z c ns fs
      obtain ⟨a, C, dx, vfs, T, rfl, h1, h2, rfl, ws, hB⟩ := w.ob_v
      split at h
      · rename_i e1
        obtain ⟨c1, c2⟩ := ht c f e1 C h2
        cases e2 : lookD (vfs.map (·.1)) fs f with
        | none => rw [e2] at h; exact h.elim
        | some q =>
          rw [e2] at h
          obtain ⟨u, S, h3, h4, h5⟩ := lookup_owns ws e2
          cases q with
          | sh d => exact ⟨a, C, dx, vfs, u, rfl, h1, c1, c2, h3, h u [] A1 F1 H1 s1 g1 (.fd (.sh h4.sh_v)) Src.sh⟩
          | ct k => exact ⟨a, C, dx, vfs, u, rfl, h1, c1, c2, h3, h u S A1 F1 H1 s1 g1 (.fd h4) (sr.sub fun b hb => by rw [hB]; exact List.mem_cons_of_mem _ (h5 b hb))⟩
      · exact h.elim
    · exact h.elim
end

/-! ### subscripts -/
theorem pe_either {X : Cx} {e : Expr} {t u : TE} (h : PE X e t) (h' : PE X e u) : PE X e (fun σ H Q => t σ H Q ∨ u σ H Q) := ⟨fun pins s σ H Q I q => by
  rcases q with q | q
  · exact h.run pins s σ H Q I q
  · exact h'.run pins s σ H Q I q⟩
theorem pt_either {X : Cx} {e : Expr} {t u : TT} (h : PT X e t) (h' : PT X e u) : PT X e (fun σ H Q => t σ H Q ∨ u σ H Q) := ⟨fun pins s σ H Q I q => by
  rcases q with q | q
  · exact h.run pins s σ H Q I q
  · exact h'.run pins s σ H Q I q⟩
def keyD : D → Option Key
  | .int i => some (.inl i)
  | .str x => some (.inr x)
  | _ => none
def keysD : List D → Option (List Key)
  | [] => some []
  | d :: ds => match keyD d, keysD ds with
    | some k, some ks => some (k :: ks)
    | _, _ => none
def lookK {κ α : Type} [DecidableEq κ] : List κ → List α → κ → Option α
  | n :: ns, v :: vs, f => if n = f then some v else lookK ns vs f
  | _, _, _ => none
/-- an item by its place or key -/
def itemOf : Option Nat × O → D → Option (Option Nat × O)
  | (_, .fd (.ct (.lst xs))), .int i | (_, .fd (.sh (.lst xs))), .int i | (_, .fd (.sh (.tup xs))), .int i => match atI xs i with
    | some d => some (none, .sh d)
    | none => none
  | (_, .fd (.sh (.str z))), .int i => if z.length ≤ lim then match atI z.cps.toList i with
    | some c => some (none, .sh (.str ⟨#[c]⟩))
    | none => none else none
  | (_, .fd (.ct (.dk ks vs))), k | (_, .fd (.sh (.dk ks vs))), k => match keyD k with
    | some k => match lookK ks vs k with
      | some d => some (none, .sh d)
      | none => none
    | none => none
  | (z, .rc (.dk ks) fs), k => match keyD k with
    | some k => match lookK ks fs k with
      | some (.sh d) => some (none, .sh d)
      | some (.ct c) => some (z, .fd (.ct c))
      | none => none
    | none => none
  | (_, .fd (.ct (.dt ks vs))), .tup k | (_, .fd (.sh (.dt ks vs))), .tup k => match keysD k with
    | some k => match lookK ks vs k with
      | some d => some (none, .sh d)
      | none => none
    | none => none
  | _, _ => none
theorem key_v {κ : Kx} {F : Hp} {v : V} {d : D} {k : Key} (r : Rep κ F v d) (e : keyD d = some k) : v = kV k := by
  cases r <;> simp only [keyD] at e <;> first | (cases e; rfl) | cases e
theorem keys_v {κ : Kx} {F : Hp} : ∀ {vs : List V} {ds : List D} {ks : List Key}, Reps κ F vs ds → keysD ds = some ks → vs = ks.map kV
  | _, _, _, .nil, e => by simp only [keysD] at e; cases e; rfl
  | _, _, _, .cons h r, e => by
    simp only [keysD] at e
    split at e
    · rename_i k ks e1 e2
      cases e
      rw [key_v h e1, keys_v r e2]
      rfl
    · cases e
theorem val_reps {κ : Kx} {F : Hp} {ι : Type} [DecidableEq ι] {k : ι} : ∀ {kvs : List (ι × V)} {ds : List D}, Reps κ F (kvs.map (·.2)) ds →
    (∀ d, lookK (kvs.map (·.1)) ds k = some d → ∃ v, valV kvs k = some v ∧ Rep κ F v d) ∧ (lookK (kvs.map (·.1)) ds k = none → valV kvs k = none)
  | [], _, r => by cases r; exact ⟨fun d e => by simp [lookK] at e, fun _ => rfl⟩
  | (n, v) :: kvs, _, r => by
    cases r with
    | cons h r =>
      have ih := val_reps (k := k) r
      by_cases q : n = k
      · refine ⟨fun d e => ⟨v, ?_, ?_⟩, fun e => ?_⟩
        · simp [valV, q]
        · simp only [List.map_cons, lookK, if_pos q] at e; cases e; exact h
        · simp only [List.map_cons, lookK, if_pos q] at e; cases e
      · have e1 : valV ((n, v) :: kvs) k = valV kvs k := by simp [valV, q]
        refine ⟨fun d e => ?_, fun e => ?_⟩
        · simp only [List.map_cons, lookK, if_neg q] at e
          rw [e1]; exact ih.1 d e
        · simp only [List.map_cons, lookK, if_neg q] at e
          rw [e1]; exact ih.2 e
theorem val_owns {κ : Kx} {F H : Hp} {ι : Type} [DecidableEq ι] {k : ι} : ∀ {kvs : List (ι × V)} {gs : List Fd} {T : List Addr}, OwnFs κ F H gs (kvs.map (·.2)) T →
    (∀ d, lookK (kvs.map (·.1)) gs k = some d → ∃ v S, valV kvs k = some v ∧ OwnF κ F H d v S ∧ ∀ b ∈ S, b ∈ T) ∧ (lookK (kvs.map (·.1)) gs k = none → valV kvs k = none)
  | [], _, _, r => by cases r; exact ⟨fun d e => by simp [lookK] at e, fun _ => rfl⟩
  | (n, v) :: kvs, _, _, r => by
    cases r with
    | cons h r =>
      have ih := val_owns (k := k) r
      by_cases q : n = k
      · refine ⟨fun d e => ⟨v, _, ?_, ?_, fun b hb => List.mem_append_left _ hb⟩, fun e => ?_⟩
        · simp [valV, q]
        · simp only [List.map_cons, lookK, if_pos q] at e; cases e; exact h
        · simp only [List.map_cons, lookK, if_pos q] at e; cases e
      · have e1 : valV ((n, v) :: kvs) k = valV kvs k := by simp [valV, q]
        refine ⟨fun d e => ?_, fun e => ?_⟩
        · simp only [List.map_cons, lookK, if_neg q] at e
          obtain ⟨u, S, h1, h2, h3⟩ := ih.1 d e
          rw [e1]; exact ⟨u, S, h1, h2, fun b hb => List.mem_append_right _ (h3 b hb)⟩
        · simp only [List.map_cons, lookK, if_neg q] at e
          rw [e1]; exact ih.2 e
theorem atI_map {α : Type} {xs : List α} {i : Int} {d : α} (h : atI xs i = some d) : ∃ j : Nat, xs[j]? = some d ∧ ∀ {β : Type} {ys : List β} {y : β}, ys.length = xs.length → ys[j]? = some y → atI ys i = some y := by
  unfold atI at h
  cases e : ixN xs.length i with
  | none => rw [e] at h; cases h
  | some j =>
    rw [e] at h
    refine ⟨j, h, fun {β ys y} hl hy => ?_⟩
    unfold atI
    rw [hl, e]
    exact hy
theorem Reps.at {κ : Kx} {F : Hp} {vs : List V} {ds : List D} {i : Int} {d : D} (r : Reps κ F vs ds) (h : atI ds i = some d) : ∃ v, atI vs i = some v ∧ Rep κ F v d := by
  obtain ⟨j, h1, h2⟩ := atI_map h
  obtain ⟨v, h3, h4⟩ := r.get j h1
  exact ⟨v, h2 r.length h3, h4⟩

def isDict : O → Bool
  | .fd (.ct (.dk _ _)) | .fd (.sh (.dk _ _)) | .fd (.ct (.dt _ _)) | .fd (.sh (.dt _ _)) | .rc (.dk _) _ => true
  | _ => false
/-- what a dict holds: by the denotation -/
theorem dget_of {κ : Kx} {A : Fp} {F H : Hp} {ρ : Env} {σ : L2.St} {τ : List O} {υ : List V} (g : G κ A F H ρ σ τ υ) {z : Option Nat} {o : O} {v : V} {B : List Addr} (w : Own κ F H o v B) (sr : Src ρ A z B) {y : V} {k : D} (ry : Rep κ H y k) (hd : isDict o = true)
    {x : Option Nat × O} (e : itemOf (z, o) k = some x) : ∃ a u S, v = .ref a ∧ DGet H a y (some u) ∧ Own κ F H x.2 u S ∧ Src ρ A x.1 S := by
  unfold isDict at hd
  split at hd
  · rename_i ks vs
    cases w with
    | fd w =>
      cases w with
      | @ct c a q =>
        obtain ⟨kvs, h1, rfl, r⟩ := q
        simp only [itemOf] at e
        split at e
        · rename_i k' ek
          split at e
          · rename_i d ed
            cases e
            obtain ⟨u, h2, h3⟩ := (val_reps r).1 d ed
            exact ⟨a, u, [], rfl, .inl ⟨kvs, k', .inl h1, key_v ry ek, h2.symm⟩, .fd (.sh h3), Src.sh⟩
          · cases e
        · cases e
  · rename_i ks vs
    obtain ⟨a, kvs, rfl, h1, rfl, r⟩ := w.sh_v.dk_v
    simp only [itemOf] at e
    split at e
    · rename_i k' ek
      split at e
      · rename_i d ed
        cases e
        obtain ⟨u, h2, h3⟩ := (val_reps r).1 d ed
        exact ⟨a, u, [], rfl, .inl ⟨kvs, k', .inl (g.fh _ _ h1), key_v ry ek, h2.symm⟩, .fd (.sh h3), Src.sh⟩
      · cases e
    · cases e
  · rename_i ks vs
    cases w with
    | fd w =>
      cases w with
      | @ct c a q =>
        obtain ⟨kvs, h1, rfl, r⟩ := q
        cases k <;> simp only [itemOf] at e
        case tup kd =>
          split at e
          · rename_i k' ek
            split at e
            · rename_i d ed
              cases e
              obtain ⟨u, h2, h3⟩ := (val_reps r).1 d ed
              obtain ⟨b, bs, rfl, h4, h5⟩ := ry.tup_v
              have h6 := keys_v h5 ek
              exact ⟨a, u, [], rfl, .inr ⟨kvs, k', b, .inl h1, rfl, by rw [h4, h6], h2.symm⟩, .fd (.sh h3), Src.sh⟩
            · cases e
          · cases e
        all_goals cases e
  · rename_i ks vs
    obtain ⟨a, kvs, rfl, h1, rfl, r⟩ := w.sh_v.dt_v
    cases k <;> simp only [itemOf] at e
    case tup kd =>
      split at e
      · rename_i k' ek
        split at e
        · rename_i d ed
          cases e
          obtain ⟨u, h2, h3⟩ := (val_reps r).1 d ed
          obtain ⟨b, bs, rfl, h4, h5⟩ := ry.tup_v
          have h6 := keys_v h5 ek
          exact ⟨a, u, [], rfl, .inr ⟨kvs, k', b, .inl (g.fh _ _ h1), rfl, by rw [h4, h6], h2.symm⟩, .fd (.sh h3), Src.sh⟩
        · cases e
      · cases e
    all_goals cases e
  · rename_i ks fs
    obtain ⟨a, kvs, T, rfl, h1, rfl, ws, hB⟩ := w.dk_v
    simp only [itemOf] at e
    split at e
    · rename_i k' ek
      split at e
      · rename_i d ed
        cases e
        obtain ⟨u, S, h2, h3, h4⟩ := (val_owns ws).1 _ ed
        exact ⟨a, u, [], rfl, .inl ⟨kvs, k', .inl h1, key_v ry ek, h2.symm⟩, .fd (.sh h3.sh_v), Src.sh⟩
      · rename_i c ed
        cases e
        obtain ⟨u, S, h2, h3, h4⟩ := (val_owns ws).1 _ ed
        exact ⟨a, u, S, rfl, .inl ⟨kvs, k', .inl h1, key_v ry ek, h2.symm⟩, .fd h3, sr.sub fun b hb => by rw [hB]; exact List.mem_cons_of_mem _ (h4 b hb)⟩
      · cases e
    · cases e
  · cases hd
/-- an item of a row, a sign of a text -/
theorem item_of {κ : Kx} {A : Fp} {F H : Hp} {ρ : Env} {σ : L2.St} {τ : List O} {υ : List V} (g : G κ A F H ρ σ τ υ) {z : Option Nat} {o : O} {v : V} {B : List Addr} (w : Own κ F H o v B) {y : V} {k : D} (ry : Rep κ H y k) (hd : isDict o = false)
    {x : Option Nat × O} (e : itemOf (z, o) k = some x) {Q : VK} (q : ∀ u S, Own κ F H x.2 u S → Src ρ A x.1 S → Q u H) : rIx κ.K v y H Q := by
  unfold itemOf at e
  split at e
  · rename_i xs i e1
    split at e
    · rename_i d ed
      cases e
      obtain ⟨a, vs, rfl, h1, r⟩ := w.lst_v (by cases e1; rfl) g.fh
      obtain ⟨u, h2, h3⟩ := r.at ed
      exact .inl ⟨a, vs, i, u, rfl, ry.int_v, SqL.of h1, h2, q u [] (.fd (.sh h3)) Src.sh⟩
    · cases e
  · rename_i xs i e1
    split at e
    · rename_i d ed
      cases e
      obtain ⟨a, vs, rfl, h1, r⟩ := w.lst_v (by cases e1; rfl) g.fh
      obtain ⟨u, h2, h3⟩ := r.at ed
      exact .inl ⟨a, vs, i, u, rfl, ry.int_v, SqL.of h1, h2, q u [] (.fd (.sh h3)) Src.sh⟩
    · cases e
  · rename_i xs i e1
    split at e
    · rename_i d ed
      cases e
      obtain ⟨a, vs, rfl, h1, r⟩ := w.tup_v (by cases e1; rfl)
      obtain ⟨u, h2, h3⟩ := r.at ed
      exact .inr (.inl ⟨a, vs, i, u, rfl, ry.int_v, SqT.of (g.fh _ _ h1), h2, q u [] (.fd (.sh h3)) Src.sh⟩)
    · cases e
  · rename_i zz i e1
    split at e
    · rename_i hl
      split at e
      · rename_i c ec
        cases e
        exact .inr (.inr ⟨zz, i, c, w.str_v (by cases e1; rfl) g.fh, ry.int_v, lim_eq ▸ hl, ec, q _ [] (.fd (.sh (.str _))) Src.sh⟩)
      · cases e
    · cases e
  all_goals first
    | (rename_i e1; cases e1; cases hd)
    | cases e
theorem borrow_stay {κ : Kx} {ρ1 ρ2 : Env} {A1 A2 : Fp} {F1 F2 H1 H2 : Hp} {pb : Bool} {z : Option Nat} {o : O} {v : V} {B : List Addr} (hc : (pb || isSh o) = true) (w : Own κ F1 H1 o v B) (sr : Src ρ1 A1 z B) (s : Stp pb ρ1 A1 F1 H1 ρ2 A2 F2 H2) : ∃ B', Own κ F2 H2 o v B' ∧ Src ρ2 A2 z B' := by
  rcases Bool.or_eq_true_iff.mp hc with q | q
  · exact ⟨B, w.mono s.fr.grow fun b _ o e => (s.pu q).1 b o e, Src.stay w sr s q⟩
  · obtain ⟨d, rfl, r⟩ := isSh_v q w
    exact ⟨[], .fd (.sh (r.mono s.fr.grow)), Src.sh⟩
def mSub (pb : Bool) (ma : M (Option Nat × O)) (mb : M D) : M (Option Nat × O) := mBind ma fun x => if pb || isSh x.2 then mBind mb fun k => match itemOf x k with
  | some y => mPure y
  | none => fun _ => .bad
  else fun _ => .bad
section
variable {X : Cx} {W : WX'} {a b : Expr} {pa pb : Bool} {ma : M (Option Nat × O)} {mb : M D} {pos : Pos}
theorem tSub_of {κ : Kx} {r : R2} (P : O → Prop) {σ : L2.St} {H : Hp} {Q : VK}
    (hr : ∀ (A : Fp) (F H : Hp) (ρ : Env) (σ : L2.St) (τ : List O) (υ : List V), G κ A F H ρ σ τ υ → ∀ (z : Option Nat) (o : O) (v : V) (B : List Addr), Own κ F H o v B → Src ρ A z B → P o → ∀ (y : V) (k : D), Rep κ H y k → ∀ x, itemOf (z, o) k = some x → ∀ Q : VK, (∀ u S, Own κ F H x.2 u S → Src ρ A x.1 S → Q u H) → r v y H Q)
    {A : Fp} {F : Hp} {ρ : Env} {τ : List O} {υ : List V} (g : G κ A F H ρ σ τ υ) (hP : ∀ x ρ1, ma ρ = .ok x ρ1 → P x.2)
    (h : Wp κ W A F H σ τ υ (mSub pb ma mb ρ) fun r ρ' => ∀ v B A' F' H', Stp (pa && pb) ρ A F H ρ' A' F' H' → G κ A' F' H' ρ' σ τ υ → Own κ F' H' r.2 v B → Src ρ' A' r.1 B → Q v H') : tOp r (tB κ W pa ma) (tV κ W pb mb) σ H Q := by
  refine ⟨A, F, ρ, τ, υ, g, ?_⟩
  have h1 := h.bind
  cases e1 : ma ρ with
  | bad => rw [e1] at h1; exact h1.elim
  | exc d ρ1 => rw [e1] at h1; exact h1
  | ok x ρ1 =>
    rw [e1] at h1
    intro v1 B1 A1 F1 H1 f1 g1 w1 sr
    have h2 : Wp κ W A F H σ τ υ ((if pb || isSh x.2 then mBind mb fun k => match itemOf x k with
  | some y => mPure y
  | none => fun _ => .bad
  else fun _ => .bad) ρ1) _ := h1
    split at h2
    · rename_i hc
      refine ⟨A1, F1, ρ1, τ, υ, g1, (h2.step f1.fr).bind.imp fun k ρ2 h v2 A2 F2 H2 f2 g2 r2 => ?_⟩
      obtain ⟨B', w2, sr2⟩ := borrow_stay hc w1 sr f2
      cases e3 : itemOf x k with
      | none => rw [e3] at h; exact h.elim
      | some y =>
        rw [e3] at h
        exact hr A2 F2 H2 ρ2 σ τ υ g2 x.1 x.2 v1 B' w2 sr2 (hP x ρ1 e1) v2 k (r2.mono g2.fh) y e3 Q fun u S w3 s3 => h u S A2 F2 H2 (f1.trans f2) g2 w3 s3
    · exact h2.elim
/-- a[b], the row, the text or the dict looked at -/
theorem dB_sub (hu : X.A.units + 1 < cLine) (ha : PE X a (tB (kx X) W pa ma)) (hb : PE X b (tV (kx X) W pb mb)) (hs : PlainIx b) (hs' : NoSl b) : PE X (.Subscript a b pos) (tB (kx X) W (pa && pb) (mSub pb ma mb)) :=
  pe_imp (pe_either (pe_ix ix_seq ha hb hs) (pe_dget hu ha hb hs')) fun σ H Q ⟨A, F, ρ, τ, υ, g, h⟩ => by
    by_cases hd : ∀ x ρ1, ma ρ = .ok x ρ1 → isDict x.2 = false
    · exact .inl (tSub_of (fun o => isDict o = false) (fun A F H ρ σ τ υ g z o v B w sr hp y k ry x e Q q => item_of g w ry hp e q) g hd h)
    · have hd' : ∀ x ρ1, ma ρ = .ok x ρ1 → isDict x.2 = true := fun x ρ1 e => by
        cases q : isDict x.2 with
        | true => rfl
        | false => exact absurd (fun x' ρ' e' => by rw [e] at e'; cases e'; exact q) hd
      exact .inr (tSub_of (r := fun x y H Q => ∃ a v, x = .ref a ∧ DGet H a y (some v) ∧ Q v H) (fun o => isDict o = true) (fun A F H ρ σ τ υ g z o v B w sr hp y k ry x e Q q => by
        obtain ⟨a, u, S, h1, h2, h3, h4⟩ := dget_of g w sr ry hp e
        exact ⟨a, u, h1, h2, q u S h3 h4⟩) g hd' h)
end

/-! ### tests -/
def mAndT (m n : M Bool) : M Bool := mBind m fun b => if b then n else mPure false
def mOrT (m n : M Bool) : M Bool := mBind m fun b => if b then mPure true else n
section
variable {X : Cx} {κ : Kx} {W : WX'} {a b c : Expr} {rest : List Expr} {p q : Bool} {pos : Pos} {m n : M Bool}
theorem dT_not (h : PT X a (tT κ W p m)) : PT X (.UnaryOp .Not a pos) (tT κ W p (mMap (!·) m)) := pt_imp (pt_not h) fun σ H Q ⟨A, F, ρ, τ, υ, g, h⟩ =>
  ⟨A, F, ρ, τ, υ, g, h.map.imp fun b ρ' h A' F' H' s g' => h A' F' H' s g'⟩
theorem dT_and1 (h : PT X a (tT κ W p m)) : PW X (.BoolOp .And [a] pos) (tT κ W p m) := pw_and1 h
theorem dT_or1 (h : PT X a (tT κ W p m)) : PW X (.BoolOp .Or [a] pos) (tT κ W p m) := pw_or1 h
theorem pw_imp {e : Expr} {t t' : TT} (h : PW X e t) (i : ∀ σ H Q, t' σ H Q → t σ H Q) : PW X e t' := ⟨fun wh pins s σ H Q I q => h.run wh pins s σ H Q I (i σ H Q q)⟩
theorem dT_and (h1 : PT X a (tT κ W p m)) (h2 : PW X (.BoolOp .And (b :: rest) pos) (tT κ W q n)) : PW X (.BoolOp .And (a :: b :: rest) pos) (tT κ W (p && q) (mAndT m n)) :=
  pw_imp (pw_and h1 h2) fun σ H Q ⟨A, F, ρ, τ, υ, g, h⟩ => ⟨A, F, ρ, τ, υ, g, h.bind.imp fun c ρ1 h A1 F1 H1 s1 g1 => by
    cases c with
    | true => exact ⟨A1, F1, ρ1, τ, υ, g1, (h.step s1.fr).imp fun r ρ2 h A2 F2 H2 s2 g2 => h A2 F2 H2 (s1.trans s2) g2⟩
    | false => exact h A1 F1 H1 (s1.imp fun z => (Bool.and_eq_true_iff.mp z).1) g1⟩
theorem dT_or (h1 : PT X a (tT κ W p m)) (h2 : PW X (.BoolOp .Or (b :: rest) pos) (tT κ W q n)) : PW X (.BoolOp .Or (a :: b :: rest) pos) (tT κ W (p && q) (mOrT m n)) :=
  pw_imp (pw_or h1 h2) fun σ H Q ⟨A, F, ρ, τ, υ, g, h⟩ => ⟨A, F, ρ, τ, υ, g, h.bind.imp fun c ρ1 h A1 F1 H1 s1 g1 => by
    cases c with
    | false => exact ⟨A1, F1, ρ1, τ, υ, g1, (h.step s1.fr).imp fun r ρ2 h A2 F2 H2 s2 g2 => h A2 F2 H2 (s1.trans s2) g2⟩
    | true => exact h A1 F1 H1 (s1.imp fun z => (Bool.and_eq_true_iff.mp z).1) g1⟩
def mBl (m : M O) : M Bool := mBind m fun o => match o with
  | .fd (.sh (.bl b)) => mPure b
  | _ => fun _ => .bad
theorem bl_top {A : Fp} {F H : Hp} {ρ : Env} {σ : L2.St} {τ : List O} {υ : List V} {b : Bool} {v : V} (g : G κ A F H ρ σ (τ ++ [.sh (.bl b)]) (υ ++ [v])) : v = .bl b ∧ ∃ A', G κ A' F H ρ σ τ υ ∧ Stp true ρ A F H ρ A' F H := by
  obtain ⟨g2, w, f2⟩ := g.pop
  exact ⟨w.sh_v.bl_v, _, g2, Stp.refl.then f2 (Same.refl _) fun i => upA_t i⟩
/-- a comparison as a test -/
theorem dT_cmp {op : CmpOp} {r : R2} {f : D → D → Option O} {ma mb : M (Option Nat × O)} {pa pb : Bool} (ho : OpR X (compareOp op) r) (hs : Op2 κ r f) (ha : PE X a (tB κ W pa ma)) (hb : PE X b (tB κ W pb mb)) (hm : behindInMarks op b = false) : PT X (.Compare a [op] [b] pos) (tT κ W (pa && pb) (mBl (mOp2 pb f ma mb))) :=
  pt_imp (pt_cmpR ho ha hb hm) fun σ H Q ⟨A, F, ρ, τ, υ, g, h⟩ => tOp_of hs ⟨A, F, ρ, τ, υ, g, h.bind.imp fun o ρ' h v A' F' H' s g' => by
    split at h
    · rename_i b
      obtain ⟨rfl, A2, g2, s2⟩ := bl_top g'
      exact ⟨b, rfl, h A2 F' H' ((s.trans s2).imp fun z => by rw [z]; rfl) g2⟩
    · exact h.elim⟩
/-- a if t else b -/
def mIf {α : Type} (t : M Bool) (m n : M α) : M α := mBind t fun b => if b then m else n
theorem dV_if {pt : Bool} {t : M Bool} {m n : M D} (ht : PT X c (tT κ W pt t)) (ha : PE X a (tV κ W p m)) (hb : PE X b (tV κ W q n)) : PE X (.IfExp c a b pos) (tV κ W (pt && (p && q)) (mIf t m n)) :=
  pe_imp (pe_ifExp ht ha hb) fun σ H Q ⟨A, F, ρ, τ, υ, g, h⟩ => ⟨A, F, ρ, τ, υ, g, h.bind.imp fun c ρ1 h A1 F1 H1 s1 g1 => by
    cases c with
    | true => exact ⟨A1, F1, ρ1, τ, υ, g1, (h.step s1.fr).imp fun r ρ2 h v A2 F2 H2 s2 g2 => h v A2 F2 H2 ((s1.trans s2).imp fun z => by simp at z; simp [z]) g2⟩
    | false => exact ⟨A1, F1, ρ1, τ, υ, g1, (h.step s1.fr).imp fun r ρ2 h v A2 F2 H2 s2 g2 => h v A2 F2 H2 ((s1.trans s2).imp fun z => by simp at z; simp [z]) g2⟩⟩
theorem dE_if {pt : Bool} {t : M Bool} {m n : M O} (ht : PT X c (tT κ W pt t)) (ha : PE X a (tE κ W p m)) (hb : PE X b (tE κ W q n)) : PE X (.IfExp c a b pos) (tE κ W (pt && (p && q)) (mIf t m n)) :=
  pe_imp (pe_ifExp ht ha hb) fun σ H Q ⟨A, F, ρ, τ, υ, g, h⟩ => ⟨A, F, ρ, τ, υ, g, h.bind.imp fun c ρ1 h A1 F1 H1 s1 g1 => by
    cases c with
    | true => exact ⟨A1, F1, ρ1, τ, υ, g1, (h.step s1.fr).imp fun r ρ2 h v A2 F2 H2 s2 g2 => h v A2 F2 H2 ((s1.trans s2).imp fun z => by simp at z; simp [z]) g2⟩
    | false => exact ⟨A1, F1, ρ1, τ, υ, g1, (h.step s1.fr).imp fun r ρ2 h v A2 F2 H2 s2 g2 => h v A2 F2 H2 ((s1.trans s2).imp fun z => by simp at z; simp [z]) g2⟩⟩
/-- and, or, not as values: bools -/
def mAndV (m n : M D) : M D := mBind m fun d => match d with
  | .bl b => if b then n else mPure (.bl false)
  | _ => fun _ => .bad
def mOrV (m n : M D) : M D := mBind m fun d => match d with
  | .bl b => if b then mPure (.bl true) else n
  | _ => fun _ => .bad
theorem dV_one {op : BoolOp} {m : M D} (h : PE X a (tV κ W p m)) : PE X (.BoolOp op [a] pos) (tV κ W p m) := pe_one h
theorem dV_and {m n : M D} (h1 : PE X a (tV κ W p m)) (h2 : PE X (.BoolOp .And (b :: rest) pos) (tV κ W q n)) : PE X (.BoolOp .And (a :: b :: rest) pos) (tV κ W (p && q) (mAndV m n)) :=
  pe_imp (pe_and h1 h2) fun σ H Q ⟨A, F, ρ, τ, υ, g, h⟩ => ⟨A, F, ρ, τ, υ, g, h.bind.imp fun d ρ1 h v A1 F1 H1 s1 g1 r1 => by
    split at h
    · rename_i c
      refine ⟨c, r1.bl_v, ?_⟩
      cases c with
      | true => exact ⟨A1, F1, ρ1, τ, υ, g1, (h.step s1.fr).imp fun r ρ2 h v A2 F2 H2 s2 g2 => h v A2 F2 H2 (s1.trans s2) g2⟩
      | false => exact h _ A1 F1 H1 (s1.imp fun z => (Bool.and_eq_true_iff.mp z).1) g1 (.bl _)
    · exact h.elim⟩
theorem dV_or {m n : M D} (h1 : PE X a (tV κ W p m)) (h2 : PE X (.BoolOp .Or (b :: rest) pos) (tV κ W q n)) : PE X (.BoolOp .Or (a :: b :: rest) pos) (tV κ W (p && q) (mOrV m n)) :=
  pe_imp (L2.pe_or h1 h2) fun σ H Q ⟨A, F, ρ, τ, υ, g, h⟩ => ⟨A, F, ρ, τ, υ, g, h.bind.imp fun d ρ1 h v A1 F1 H1 s1 g1 r1 => by
    split at h
    · rename_i c
      refine ⟨c, r1.bl_v, ?_⟩
      cases c with
      | false => exact ⟨A1, F1, ρ1, τ, υ, g1, (h.step s1.fr).imp fun r ρ2 h v A2 F2 H2 s2 g2 => h v A2 F2 H2 (s1.trans s2) g2⟩
      | true => exact h _ A1 F1 H1 (s1.imp fun z => (Bool.and_eq_true_iff.mp z).1) g1 (.bl _)
    · exact h.elim⟩
end

/-! ### truth -/
def truD : D → Option Bool
  | .non => some false
  | .bl b => some b
  | .int i => some (i != 0)
  | .str x => if x.length ≤ lim then some ((x.length : Int) != 0) else none
  | .tup xs => some (!xs.isEmpty)
  | .lst xs => some (!xs.isEmpty)
  | .dk ks vs => some (!vs.isEmpty)
  | _ => none
theorem Reps.isEmpty {κ : Kx} {F : Hp} {vs : List V} {ds : List D} (r : Reps κ F vs ds) : vs.isEmpty = ds.isEmpty := by cases r <;> rfl
theorem tru_of {κ : Kx} {H : Hp} {v : V} {d : D} {k : Bool} (r : Rep κ H v d) (e : truD d = some k) : TruV κ.K v H k := by
  cases r with
  | non => cases e; rfl
  | bl b => cases e; rfl
  | int i => cases e; rfl
  | str x =>
    simp only [truD] at e
    split at e
    · rename_i hl
      cases e
      exact ⟨lim_eq ▸ hl, rfl⟩
    · cases e
  | tup h r =>
    simp only [truD] at e
    cases e
    exact .inr (.inl ⟨_, SqT.of h, by rw [r.isEmpty]⟩)
  | lst h r =>
    simp only [truD] at e
    cases e
    exact .inl ⟨_, SqL.of h, by rw [r.isEmpty]⟩
  | fz h r => cases e
  | dk h r =>
    simp only [truD] at e
    cases e
    refine .inr (.inr ⟨_, h, ?_⟩)
    rw [← r.isEmpty]
    simp
  | dt _ _ => cases e
  | ob _ _ _ => cases e
def mTru (m : M (Option Nat × O)) : M Bool := mBind m fun x => match truD x.2.toD with
  | some b => mPure b
  | none => fun _ => .bad
section
variable {X : Cx} {W : WX'} {e : Expr} {p : Bool} {pos : Pos} {m : M (Option Nat × O)}
/-- any value as a test -/
theorem dT_tru (h : PE X e (tB (kx X) W p m)) (he : ∀ whole, isTrue e X.env whole = (do let v ← whole; standAt e.pos; holding [v] (truthy v)) := by intro _; rfl) : PT X e (tT (kx X) W p (mTru m)) :=
  pt_imp (pt_truth h he) fun σ H Q ⟨A, F, ρ, τ, υ, g, h⟩ => ⟨A, F, ρ, τ, υ, g, h.bind.imp fun x ρ1 h v B A1 F1 H1 s1 g1 w _ => by
    cases q : truD x.2.toD with
    | none => rw [q] at h; exact h.elim
    | some b =>
      rw [q] at h
      exact ⟨b, tru_of (w.repH g1.fh) q, h A1 F1 H1 s1 g1⟩⟩
theorem dV_not (h : PE X e (tB (kx X) W p m)) : PE X (.UnaryOp .Not e pos) (tV (kx X) W p (mMap (fun b => .bl (!b)) (mTru m))) :=
  pe_imp (pe_notT h) fun σ H Q ⟨A, F, ρ, τ, υ, g, h⟩ => ⟨A, F, ρ, τ, υ, g, h.map.bind.imp fun x ρ1 h v B A1 F1 H1 s1 g1 w _ => by
    cases q : truD x.2.toD with
    | none => rw [q] at h; exact h.elim
    | some b =>
      rw [q] at h
      exact ⟨b, tru_of (w.repH g1.fh) q, h _ A1 F1 H1 s1 g1 (.bl _)⟩⟩
def mNeg (m : M D) : M D := mBind m fun d => match d with
  | .int i => mPure (.int (-i))
  | _ => fun _ => .bad
theorem dV_neg {κ : Kx} {m : M D} (h : PE X e (tV κ W p m)) : PE X (.UnaryOp .USub e pos) (tV κ W p (mNeg m)) :=
  pe_imp (pe_un un_neg h) fun σ H Q ⟨A, F, ρ, τ, υ, g, h⟩ => ⟨A, F, ρ, τ, υ, g, h.bind.imp fun d ρ1 h v A1 F1 H1 s1 g1 r => by
    split at h
    · exact ⟨_, r.int_v, h _ A1 F1 H1 s1 g1 (.int _)⟩
    · exact h.elim⟩
end
end DL

end

section
set_option Elab.async false
set_option linter.all false
set_option maxRecDepth 100000
/-! DL, part E: slices, built-in functions. -/
namespace DL
open PySem L2

/-! ### slices -/
def cutL {α : Type} (xs : List α) (lo hi : Option Int) : List α := (xs.drop (HT.sIx xs.length 0 lo)).take (HT.sIx xs.length xs.length hi - HT.sIx xs.length 0 lo)
theorem Reps.cut {κ : Kx} {F : Hp} {vs : List V} {ds : List D} (r : Reps κ F vs ds) (lo hi : Option Int) : Reps κ F (cutV vs lo hi) (cutL ds lo hi) := by
  unfold cutV cutL
  rw [r.length]
  exact (r.drop _).take _
def sliceD (d : D) (lo hi : Option Int) : Option O := match d with
  | .lst xs => some (.lst (cutL xs lo hi))
  | .tup xs => some (.sh (.tup (cutL xs lo hi)))
  | .str z => if z.length ≤ lim then some (.sh (.str (cutS z lo hi))) else none
  | _ => none
def rSliceA (K : PySem.W.Frag) : V → Option Int → Option Int → Hp → VK → Prop := fun x lo hi H Q => rSlL K x lo hi H Q ∨ rSlA K x lo hi H Q ∨ rSlS x lo hi H Q
theorem sl_any {X : Cx} : SlR X (rSliceA X.K) := sl_list.or (sl_tupA.or sl_str)
theorem cut_whole {α : Type} {xs : List α} {lo hi : Option Int} (h : HT.sIx xs.length 0 lo = 0 ∧ HT.sIx xs.length xs.length hi = xs.length) : cutL xs lo hi = xs := by
  unfold cutL
  rw [h.1, h.2]
  simp
theorem slice_sem {κ : Kx} {A : Fp} {F H : Hp} {ρ : Env} {σ : L2.St} {τ : List O} {υ : List V} (g : G κ A F H ρ σ τ υ) {o : O} {v : V} {B : List Addr} (w : Own κ F H o v B) {lo hi : Option Int} {u : O} (e : sliceD o.toD lo hi = some u)
    {Q : VK} (q : ∀ v H', Fin κ A F H ρ σ τ υ u v H' → Q v H') : rSliceA κ.K v lo hi H Q := by
  unfold sliceD at e
  split at e
  · rename_i xs e1
    cases e
    obtain ⟨a, vs, rfl, h1, r⟩ := w.lst_v e1 g.fh
    exact .inl ⟨a, vs, rfl, SqL.of h1, fun p hp => q _ _ (fin_lst g hp (r.cut lo hi))⟩
  · rename_i xs e1
    cases e
    obtain ⟨a, vs, rfl, h1, r⟩ := w.tup_v e1
    refine .inr (.inl ⟨a, vs, rfl, SqT.of (g.fh _ _ h1), fun hw => ?_, fun _ p hp => q _ _ (fin_tup g hp (r.cut lo hi))⟩)
    rw [r.length] at hw
    refine q (.ref a) H ?_
    rw [cut_whole hw]
    exact fin_sh g (.tup h1 r)
  · rename_i z e1
    split at e
    · rename_i hl
      cases e
      exact .inr (.inr ⟨z, w.str_v e1 g.fh, lim_eq ▸ hl, q _ _ (fin_sh g (.str _))⟩)
    · cases e
  · cases e
/-- a part of a slice -/
def tI (κ : Kx) (W : WX') (p : Bool) (m : M (Option Int)) : TO := fun σ H Q => ∃ A F ρ τ υ, G κ A F H ρ σ τ υ ∧ Wp κ W A F H σ τ υ (m ρ) fun i ρ' => ∀ A' F' H', Stp p ρ A F H ρ' A' F' H' → G κ A' F' H' ρ' σ τ υ → Q i H'
def mPart (m : M D) : M (Option Int) := mBind m fun d => match d with
  | .int i => mPure (some i)
  | _ => fun _ => .bad
def mSlice (pl ph : Bool) (ma : M (Option Nat × O)) (ml mh : M (Option Int)) : M O := mBind ma fun x => if (pl && ph) || isSh x.2 then mBind ml fun lo => mBind mh fun hi => match sliceD x.2.toD lo hi with
  | some o => mPure o
  | none => fun _ => .bad
  else fun _ => .bad
section
variable {X : Cx} {W : WX'} {e : Expr} {lo hi : Option Expr} {p pl ph : Bool} {pos p2 : Pos}
theorem po_imp {e : Option Expr} {t t' : TO} (h : PO X e t) (i : ∀ σ H Q, t' σ H Q → t σ H Q) : PO X e t' := by
  obtain ⟨r⟩ := h
  exact ⟨by
    intro pins s σ H Q I q
    exact r pins s σ H Q I (i σ H Q q)⟩
theorem dI_none {κ : Kx} : PO X none (tI κ W true (mPure none)) := po_imp po_none fun σ H Q ⟨A, F, ρ, τ, υ, g, h⟩ => h A F H .refl g
theorem dI_some {κ : Kx} {m : M D} (h : PE X e (tV κ W p m)) : PO X (some e) (tI κ W p (mPart m)) := po_imp (po_some h) fun σ H Q ⟨A, F, ρ, τ, υ, g, h⟩ => ⟨A, F, ρ, τ, υ, g, h.bind.imp fun d ρ' h v A' F' H' s g' r => by
  split at h
  · exact ⟨_, r.int_v, h A' F' H' s g'⟩
  · exact h.elim⟩
theorem dE_slice {ma : M (Option Nat × O)} {ml mh : M (Option Int)} (ha : PE X e (tB (kx X) W p ma)) (hl : PO X lo (tI (kx X) W pl ml)) (hh : PO X hi (tI (kx X) W ph mh)) : PE X (.Subscript e (.Slice lo hi none p2) pos) (tE (kx X) W (p && (pl && ph)) (mSlice pl ph ma ml mh)) :=
  pe_imp (pe_slice sl_any ha hl hh) fun σ H Q ⟨A, F, ρ, τ, υ, g, h⟩ => ⟨A, F, ρ, τ, υ, g, h.bind.imp fun x ρ1 h v B A1 F1 H1 s1 g1 w sr => by
    split at h
    · rename_i hc
      refine ⟨A1, F1, ρ1, τ, υ, g1, (h.step s1.fr).bind.imp fun lo ρ2 h A2 F2 H2 s2 g2 => ?_⟩
      refine ⟨A2, F2, ρ2, τ, υ, g2, (h.step s2.fr).bind.imp fun hi ρ3 h A3 F3 H3 s3 g3 => ?_⟩
      obtain ⟨B', w3, _⟩ := borrow_stay hc w sr (s2.trans s3)
      cases e3 : sliceD x.2.toD lo hi with
      | none => rw [e3] at h; exact h.elim
      | some o =>
        rw [e3] at h
        exact slice_sem g3 w3 e3 fun v H4 ⟨A4, F4, s4, g4⟩ => h v A4 F4 H4 (((s1.trans (s2.trans s3)).trans s4).imp fun z => by rw [z]; rfl) g4
    · exact h.elim⟩
end

/-! ### built-in functions -/
def CallOp (κ : Kx) (r : List V → Hp → VK → Prop) (f : List D → Option O) : Prop := ∀ (A : Fp) (F H : Hp) (ρ : Env) (σ : L2.St) (τ : List O) (υ : List V), G κ A F H ρ σ τ υ → ∀ rs vs, OwnL κ ρ A F H rs vs →
  ∀ o, f (rs.map fun x => x.2.toD) = some o → ∀ Q : VK, (∀ v H', Fin κ A F H ρ σ τ υ o v H' → Q v H') → r vs H Q
def mCall (f : List D → Option O) (ms : M (List (Option Nat × O))) : M O := mBind ms fun rs => match f (rs.map fun x => x.2.toD) with
  | some o => mPure o
  | none => fun _ => .bad
section
variable {X : Cx} {κ : Kx} {W : WX'} {e : Expr} {es : List Expr} {p : Bool} {ps pos : Pos} {x : Str} {r : List V → Hp → VK → Prop} {f : List D → Option O} {ms : M (List (Option Nat × O))}
theorem call_of (hs : CallOp κ r f) {σ : L2.St} {H : Hp} {Q : VK} (h : tE κ W p (mCall f ms) σ H Q) : tCB r (tBs κ W p ms) σ H Q := by
  obtain ⟨A, F, ρ, τ, υ, g, h⟩ := h
  refine ⟨A, F, ρ, τ, υ, g, h.bind.imp fun rs ρ1 h vs A1 F1 H1 s1 g1 w => ?_⟩
  cases e : f (rs.map fun x => x.2.toD) with
  | none => rw [e] at h; exact h.elim
  | some o =>
    rw [e] at h
    exact hs A1 F1 H1 ρ1 σ τ υ g1 rs vs w o e Q fun v H2 ⟨A2, F2, s2, g2⟩ => h v A2 F2 H2 ((s1.trans s2).imp fun z => by rw [z]; rfl) g2
theorem dE_callB {id : String} (hc : CallR X (.builtin id) r) (hs : CallOp κ r f) (hg : Gl X x) (hm : X.mg x = none) (hv : bootBuiltins x = some (.builtin id)) (ha : PA X (e :: es) (tBs κ W p ms)) (hn : x ≠ "__name__") (hdb : (x == ("__debug__" : Str)) = false)
    (he : starEach (e :: es) X.env = (false, eval e X.env) :: starEach es X.env := by rfl) (hpl : (backTo pos (starEach es X.env)).any (·.1) = false := by rfl) : PE X (.Call (.Name x ps) (e :: es) [] pos) (tE κ W p (mCall f ms)) :=
  pe_imp (pe_callB hc hg hm hv ha hn hdb he hpl) fun _ _ _ h => call_of hs h
theorem dE_callT {T : String} (hc : CallR X (.type T) r) (hs : CallOp κ r f) (hg : Gl X x) (hm : X.mg x = none) (hv : bootBuiltins x = some (.type T)) (ha : PA X (e :: es) (tBs κ W p ms)) (hn : x ≠ "__name__") (hdb : (x == ("__debug__" : Str)) = false)
    (he : starEach (e :: es) X.env = (false, eval e X.env) :: starEach es X.env := by rfl) (hpl : (backTo pos (starEach es X.env)).any (·.1) = false := by rfl) : PE X (.Call (.Name x ps) (e :: es) [] pos) (tE κ W p (mCall f ms)) :=
  pe_imp (pe_callTy hc hg hm hv ha hn hdb he hpl) fun _ _ _ h => call_of hs h
end
theorem OwnL.one {κ : Kx} {ρ : Env} {A : Fp} {F H : Hp} {rs : List (Option Nat × O)} {vs : List V} {d : D} (w : OwnL κ ρ A F H rs vs) (e : rs.map (fun x => x.2.toD) = [d]) : ∃ o v B, vs = [v] ∧ Own κ F H o v B ∧ o.toD = d := by
  cases w with
  | nil => cases e
  | cons w _ t =>
    cases t with
    | nil =>
      simp only [List.map_cons, List.map_nil, List.cons.injEq] at e
      exact ⟨_, _, _, rfl, w, e.1⟩
    | cons _ _ _ => simp at e
theorem OwnL.two {κ : Kx} {ρ : Env} {A : Fp} {F H : Hp} {rs : List (Option Nat × O)} {vs : List V} {d d' : D} (w : OwnL κ ρ A F H rs vs) (e : rs.map (fun x => x.2.toD) = [d, d']) :
    ∃ o v B o' v' B', vs = [v, v'] ∧ Own κ F H o v B ∧ o.toD = d ∧ Own κ F H o' v' B' ∧ o'.toD = d' := by
  cases w with
  | nil => cases e
  | cons w _ t =>
    simp only [List.map_cons, List.cons.injEq] at e
    obtain ⟨o', v', B', rfl, w', e'⟩ := t.one e.2
    exact ⟨_, _, _, o', v', B', rfl, w, e.1, w', e'⟩
/-- one argument -/
def Call1 (κ : Kx) (r : List V → Hp → VK → Prop) (f : D → Option O) : Prop := ∀ (A : Fp) (F H : Hp) (ρ : Env) (σ : L2.St) (τ : List O) (υ : List V), G κ A F H ρ σ τ υ → ∀ o v B, Own κ F H o v B →
  ∀ u, f o.toD = some u → ∀ Q : VK, (∀ v H', Fin κ A F H ρ σ τ υ u v H' → Q v H') → r [v] H Q
def f1 (f : D → Option O) : List D → Option O
  | [d] => f d
  | _ => none
theorem Call1.op {κ : Kx} {r : List V → Hp → VK → Prop} {f : D → Option O} (h : Call1 κ r f) : CallOp κ r (f1 f) := by
  intro A F H ρ σ τ υ g rs vs w o e Q q
  unfold f1 at e
  split at e
  · rename_i d e1
    obtain ⟨o', v, B, rfl, w', rfl⟩ := w.one e1
    exact h A F H ρ σ τ υ g o' v B w' o e Q q
  · cases e
def Call2 (κ : Kx) (r : List V → Hp → VK → Prop) (f : D → D → Option O) : Prop := ∀ (A : Fp) (F H : Hp) (ρ : Env) (σ : L2.St) (τ : List O) (υ : List V), G κ A F H ρ σ τ υ → ∀ o v B, Own κ F H o v B → ∀ o' v' B', Own κ F H o' v' B' →
  ∀ u, f o.toD o'.toD = some u → ∀ Q : VK, (∀ v H', Fin κ A F H ρ σ τ υ u v H' → Q v H') → r [v, v'] H Q
def f2 (f : D → D → Option O) : List D → Option O
  | [d, d'] => f d d'
  | _ => none
theorem Call2.op {κ : Kx} {r : List V → Hp → VK → Prop} {f : D → D → Option O} (h : Call2 κ r f) : CallOp κ r (f2 f) := by
  intro A F H ρ σ τ υ g rs vs w o e Q q
  unfold f2 at e
  split at e
  · rename_i d d' e1
    obtain ⟨o1, v, B, o2, v', B', rfl, w1, rfl, w2, rfl⟩ := w.two e1
    exact h A F H ρ σ τ υ g o1 v B w1 o2 v' B' w2 o e Q q
  · cases e
def orF (f f' : List D → Option O) (ds : List D) : Option O := match f ds with
  | some o => some o
  | none => f' ds
theorem CallOp.or {κ : Kx} {r r' : List V → Hp → VK → Prop} {f f' : List D → Option O} (h : CallOp κ r f) (h' : CallOp κ r' f') :
    CallOp κ (fun vs H Q => r vs H Q ∨ r' vs H Q) (orF f f') := by
  intro A F H ρ σ τ υ g rs vs w o e Q q
  unfold orF at e
  cases e1 : f (rs.map fun x => x.2.toD) with
  | some u =>
    rw [e1] at e
    cases e
    exact .inl (h A F H ρ σ τ υ g rs vs w _ e1 Q q)
  | none =>
    rw [e1] at e
    exact .inr (h' A F H ρ σ τ υ g rs vs w o e Q q)

/-! len -/
def lenD : D → Option O
  | .str x => if x.length ≤ lim then some (.sh (.int x.length)) else none
  | .tup xs => some (.sh (.int xs.length))
  | .lst xs => some (.sh (.int xs.length))
  | .dk _ vs => some (.sh (.int vs.length))
  | .dt _ vs => some (.sh (.int vs.length))
  | _ => none
def rLenA (K : PySem.W.Frag) : List V → Hp → VK → Prop := fun xs H Q => (∃ x n, xs = [x] ∧ LenV K x H n ∧ Q (.int n) H) ∨ (∃ a kvs, xs = [V.ref a] ∧ H a = some (.dK kvs) ∧ Q (.int kvs.length) H) ∨ rLenT xs H Q
theorem call_lenA {X : Cx} : CallR X (.builtin "len") (rLenA X.K) := call_len.or (call_lenD.or call_len_dT)
theorem len_sem {κ : Kx} : Call1 κ (rLenA κ.K) lenD := by
  intro A F H ρ σ τ υ g o v B w u e Q q
  have r := w.repH g.fh
  unfold lenD at e
  split at e
  · rename_i x ex
    split at e
    · rename_i hl
      cases e
      rw [ex] at r
      exact .inl ⟨v, x.length, rfl, by rw [r.str_v]; exact ⟨lim_eq ▸ hl, rfl⟩, q _ _ (fin_sh g (.int _))⟩
    · cases e
  · rename_i xs ex
    cases e
    rw [ex] at r
    obtain ⟨a, vs, rfl, h1, h2⟩ := r.tup_v
    refine .inl ⟨_, vs.length, rfl, .inr ⟨vs, SqT.of h1, rfl⟩, ?_⟩
    rw [h2.length]
    exact q _ _ (fin_sh g (.int _))
  · rename_i xs ex
    cases e
    rw [ex] at r
    obtain ⟨a, vs, rfl, h1, h2⟩ := r.lst_v
    refine .inl ⟨_, vs.length, rfl, .inl ⟨vs, SqL.of h1, rfl⟩, ?_⟩
    rw [h2.length]
    exact q _ _ (fin_sh g (.int _))
  · rename_i ks xs ex
    cases e
    rw [ex] at r
    obtain ⟨a, kvs, rfl, h1, _, h2⟩ := r.dk_v
    have hl := h2.length
    rw [List.length_map] at hl
    refine .inr (.inl ⟨a, kvs, rfl, h1, ?_⟩)
    rw [hl]
    exact q _ _ (fin_sh g (.int _))
  · rename_i ks xs ex
    cases e
    rw [ex] at r
    obtain ⟨a, kvs, rfl, h1, _, h2⟩ := r.dt_v
    have hl := h2.length
    rw [List.length_map] at hl
    refine .inr (.inr ⟨a, kvs, rfl, h1, ?_⟩)
    rw [hl]
    exact q _ _ (fin_sh g (.int _))
  · cases e

/-! ints -/
def absD : D → Option O
  | .int i => some (.sh (.int (if i < 0 then -i else i)))
  | _ => none
theorem abs_sem {κ : Kx} : Call1 κ (fun xs H Q => ∃ i, xs = [.int i] ∧ Q (.int (if i < 0 then -i else i)) H) absD := by
  intro A F H ρ σ τ υ g o v B w u e Q q
  unfold absD at e
  split at e
  · rename_i i ex
    cases e
    exact ⟨i, by rw [w.int_v ex g.fh], q _ _ (fin_sh g (.int _))⟩
  · cases e
def intD : D → Option O
  | .int i => some (.sh (.int i))
  | .bl k => some (.sh (.int (if k then 1 else 0)))
  | _ => none
theorem int_sem {κ : Kx} : Call1 κ (fun xs H Q => (∃ i, xs = [.int i] ∧ Q (.int i) H) ∨ ∃ k, xs = [.bl k] ∧ Q (.int (if k then 1 else 0)) H) intD := by
  intro A F H ρ σ τ υ g o v B w u e Q q
  unfold intD at e
  split at e
  · rename_i i ex
    cases e
    exact .inl ⟨i, by rw [w.int_v ex g.fh], q _ _ (fin_sh g (.int _))⟩
  · rename_i i ex
    cases e
    exact .inr ⟨i, by rw [w.bl_v ex g.fh], q _ _ (fin_sh g (.int _))⟩
  · cases e
def minD : D → D → Option O
  | .int i, .int j => some (.sh (.int (if j < i then j else i)))
  | _, _ => none
def maxD : D → D → Option O
  | .int i, .int j => some (.sh (.int (if j > i then j else i)))
  | _, _ => none
theorem min_sem {κ : Kx} : Call2 κ (fun xs H Q => ∃ i j, xs = [.int i, .int j] ∧ Q (.int (if j < i then j else i)) H) minD := by
  intro A F H ρ σ τ υ g o v B w o' v' B' w' u e Q q
  unfold minD at e
  split at e
  · rename_i i j ex ey
    cases e
    exact ⟨i, j, by rw [w.int_v ex g.fh, w'.int_v ey g.fh], q _ _ (fin_sh g (.int _))⟩
  · cases e
theorem max_sem {κ : Kx} : Call2 κ (fun xs H Q => ∃ i j, xs = [.int i, .int j] ∧ Q (.int (if j > i then j else i)) H) maxD := by
  intro A F H ρ σ τ υ g o v B w o' v' B' w' u e Q q
  unfold maxD at e
  split at e
  · rename_i i j ex ey
    cases e
    exact ⟨i, j, by rw [w.int_v ex g.fh, w'.int_v ey g.fh], q _ _ (fin_sh g (.int _))⟩
  · cases e

/-! tuple, list -/
def tupleD : D → Option O
  | .lst xs => some (.sh (.tup xs))
  | .tup xs => some (.sh (.tup xs))
  | _ => none
def rTupA (K : PySem.W.Frag) : List V → Hp → VK → Prop := fun xs H Q => ∃ p ys, xs = [.ref p] ∧ ((SqL K H p ys ∧ ∀ l, H l = none → Q (.ref l) (upd H l (.tup ys))) ∨ (SqT K H p ys ∧ Q (.ref p) H))
theorem tuple_sem {κ : Kx} : Call1 κ (rTupA κ.K) tupleD := by
  intro A F H ρ σ τ υ g o v B w u e Q q
  unfold tupleD at e
  split at e
  · rename_i xs ex
    cases e
    obtain ⟨a, vs, rfl, h1, h2⟩ := w.lst_v ex g.fh
    exact ⟨a, vs, rfl, .inl ⟨SqL.of h1, fun l hl => q _ _ (fin_tup g hl h2)⟩⟩
  · rename_i xs ex
    cases e
    obtain ⟨a, vs, rfl, h1, h2⟩ := w.tup_v ex
    exact ⟨a, vs, rfl, .inr ⟨SqT.of (g.fh _ _ h1), q _ _ (fin_sh g (.tup h1 h2))⟩⟩
  · cases e
def listD : D → Option O
  | .lst xs => some (.lst xs)
  | .fz xs => some (.lst xs)
  | .tup xs => some (.lst xs)
  | _ => none
def rListA (K : PySem.W.Frag) : List V → Hp → VK → Prop := fun xs H Q => ∃ p ys, xs = [.ref p] ∧ (SqL K H p ys ∨ SqT K H p ys) ∧ ∀ l, H l = none → Q (.ref l) (upd H l (.lst ys))
theorem list_sem {κ : Kx} : Call1 κ (rListA κ.K) listD := by
  intro A F H ρ σ τ υ g o v B w u e Q q
  unfold listD at e
  split at e
  · rename_i xs ex
    cases e
    obtain ⟨a, vs, rfl, h1, h2⟩ := w.lst_v ex g.fh
    exact ⟨a, vs, rfl, .inl (SqL.of h1), fun l hl => q _ _ (fin_lst g hl h2)⟩
  · rename_i xs ex
    cases e
    obtain ⟨a, vs, rfl, h1, r'⟩ := w.fz_v ex
    exact ⟨a, vs, rfl, .inl (g.fh.seq h1), fun l hl => q _ _ (fin_lst g hl r')⟩
  · rename_i xs ex
    cases e
    obtain ⟨a, vs, rfl, h1, h2⟩ := w.tup_v ex
    exact ⟨a, vs, rfl, .inr (SqT.of (g.fh _ _ h1)), fun l hl => q _ _ (fin_lst g hl h2)⟩
  · cases e

/-! sums, all, any -/
def intsD : List D → Option (List Int)
  | [] => some []
  | .int i :: ds => match intsD ds with
    | some is => some (i :: is)
    | none => none
  | _ => none
theorem ints_v {κ : Kx} {F : Hp} : ∀ {vs : List V} {ds : List D} {is : List Int}, Reps κ F vs ds → intsD ds = some is → vs = is.map V.int
  | _, _, _, .nil, e => by simp only [intsD] at e; cases e; rfl
  | _, _, _, .cons h r, e => by
    unfold intsD at e
    split at e
    · rename_i e1; cases e1
    · rename_i i ds e1
      cases e1
      split at e
      · rename_i is e2
        cases e
        rw [h.int_v, ints_v r e2]
        rfl
      · cases e
    · cases e
def blsD : List D → Option (List Bool)
  | [] => some []
  | .bl b :: ds => match blsD ds with
    | some bs => some (b :: bs)
    | none => none
  | _ => none
theorem bls_v {κ : Kx} {F : Hp} : ∀ {vs : List V} {ds : List D} {is : List Bool}, Reps κ F vs ds → blsD ds = some is → vs = is.map V.bl
  | _, _, _, .nil, e => by simp only [blsD] at e; cases e; rfl
  | _, _, _, .cons h r, e => by
    unfold blsD at e
    split at e
    · rename_i e1; cases e1
    · rename_i i ds e1
      cases e1
      split at e
      · rename_i is e2
        cases e
        rw [h.bl_v, bls_v r e2]
        rfl
      · cases e
    · cases e
def sumD : D → Option O
  | .lst ds => match intsD ds with
    | some is => some (.sh (.int is.sum))
    | none => none
  | _ => none
theorem sum_sem {κ : Kx} : Call1 κ (rSum κ.K) sumD := by
  intro A F H ρ σ τ υ g o v B w u e Q q
  unfold sumD at e
  split at e
  · rename_i ds ex
    split at e
    · rename_i is ei
      cases e
      obtain ⟨a, vs, rfl, h1, h2⟩ := w.lst_v ex g.fh
      rw [ints_v h2 ei] at h1
      exact ⟨a, is, rfl, SqL.of h1, q _ _ (fin_sh g (.int _))⟩
    · cases e
  · cases e
def anyD : D → Option O
  | .lst ds => match blsD ds with
    | some bs => some (.sh (.bl (bs.any id)))
    | none => none
  | _ => none
def allD : D → Option O
  | .lst ds => match blsD ds with
    | some bs => some (.sh (.bl (bs.all id)))
    | none => none
  | _ => none
theorem any_sem {κ : Kx} : Call1 κ (rAny κ.K) anyD := by
  intro A F H ρ σ τ υ g o v B w u e Q q
  unfold anyD at e
  split at e
  · rename_i ds ex
    split at e
    · rename_i is ei
      cases e
      obtain ⟨a, vs, rfl, h1, h2⟩ := w.lst_v ex g.fh
      rw [bls_v h2 ei] at h1
      exact ⟨a, is, rfl, SqL.of h1, q _ _ (fin_sh g (.bl _))⟩
    · cases e
  · cases e
theorem all_sem {κ : Kx} : Call1 κ (rAll κ.K) allD := by
  intro A F H ρ σ τ υ g o v B w u e Q q
  unfold allD at e
  split at e
  · rename_i ds ex
    split at e
    · rename_i is ei
      cases e
      obtain ⟨a, vs, rfl, h1, h2⟩ := w.lst_v ex g.fh
      rw [bls_v h2 ei] at h1
      exact ⟨a, is, rfl, SqL.of h1, q _ _ (fin_sh g (.bl _))⟩
    · cases e
  · cases e
end DL

end

section
set_option Elab.async false
set_option linter.all false
set_option maxRecDepth 100000
/-! DL, part F: cells changed in place, targets, what a loop walks, loops, comprehensions. -/
namespace DL
open PySem L2 RZ

section
variable {κ : Kx} {A A' : Fp} {F F' H H' : Hp} {ρ ρ' : Env} {σ σ' : L2.St} {τ τ' : List O} {υ υ' : List V}
/-- what stands at a place changes -/
theorem G.write {x : Ix} {o' : O} {v : V} {S : List Addr} (g : G κ A F H ρ σ τ υ) (len : ρ'.length = ρ.length) (lent : τ'.length = τ.length)
    (hx : ∀ o, atO ρ' τ' x = some o → o = o') (hy : ∀ y o, y ≠ x → atO ρ' τ' y = some o → atO ρ τ y = some o) (hv : atV σ υ x = some v) (w : Own κ F H' o' v S) (nd : S.Nodup)
    (hS : ∀ b ∈ S, b ∈ A x ∨ (∀ y, b ∉ A y) ∧ F b = none) (hH : ∀ b o, H b = some o → b ∉ A x → H' b = some o) : G κ (upA A x S) F H' ρ' σ τ' υ := by
  refine ⟨len.trans g.len, lent.trans g.lent, fun y u e => ?_, fun y => ?_, fun y z b n h1 h2 => ?_, fun y b hb => ?_, fun y b hb => ?_, fun b u e => ?_⟩
  · by_cases z : y = x
    · subst z
      rw [hx u e, upA_same]
      exact ⟨v, hv, w⟩
    · obtain ⟨v', h1, h2⟩ := g.own y u (hy y u z e)
      refine ⟨v', h1, ?_⟩
      rw [upA_ne z]
      exact h2.mono (Same.refl _) fun b hb o e => hH b o e (g.dj y x b z hb)
  · by_cases z : y = x
    · subst z; rw [upA_same]; exact nd
    · rw [upA_ne z]; exact g.nd y
  · by_cases a : y = x
    · subst a
      rw [upA_same] at h1
      rw [upA_ne (Ne.symm n)] at h2
      rcases hS b h1 with q | q
      · exact g.dj y z b n q h2
      · exact q.1 z h2
    · rw [upA_ne a] at h1
      by_cases c : z = x
      · subst c
        rw [upA_same] at h2
        rcases hS b h2 with q | q
        · exact g.dj y z b n h1 q
        · exact q.1 y h1
      · rw [upA_ne c] at h2
        exact g.dj y z b n h1 h2
  · by_cases a : y = x
    · subst a
      rw [upA_same] at hb
      rcases hS b hb with q | q
      · exact g.ff y b q
      · exact q.2
    · rw [upA_ne a] at hb; exact g.ff y b hb
  · by_cases a : y = x
    · subst a
      rw [upA_same] at hb
      exact w.there b hb
    · rw [upA_ne a] at hb
      obtain ⟨o, e, q⟩ := g.ft y b hb
      exact ⟨o, hH b o e (g.dj y x b a hb), q⟩
  · exact hH b u (g.fh b u e) fun hb => by rw [g.ff x b hb] at e; cases e
theorem frWrite {A0 : Fp} {x : Ix} {S : List Addr} (hS : ∀ b ∈ S, (∃ y, b ∈ A0 y) ∨ H b = none) (hA : ∀ y b, b ∈ A y → ∃ z, b ∈ A0 z) (hx : ∀ b ∈ A x, ∃ z, b ∈ A0 z) (hH : ∀ b o, H b = some o → b ∉ A x → H' b = some o)
    (ht : ∀ b, H b ≠ none → H' b ≠ none) : Fr A0 F H (upA A x S) F H' :=
  ⟨fun b o e n => hH b o e fun hb => let ⟨z, hz⟩ := hx b hb; n z hz, ht, fun y b hb => by
    by_cases a : y = x
    · subst a; rw [upA_same] at hb; exact hS b hb
    · rw [upA_ne a] at hb; exact .inl (hA y b hb), Same.refl _, fun b e => .inl e⟩
/-- one owned cell is written -/
theorem G.write1 {x : Ix} {o o' : O} {a : Addr} {u : HO} (g : G κ A F H ρ σ τ υ) (len : ρ'.length = ρ.length) (lent : τ'.length = τ.length)
    (h0 : atO ρ τ x = some o) (ha : a ∈ A x)
    (hx : ∀ o, atO ρ' τ' x = some o → o = o') (hy : ∀ y o, y ≠ x → atO ρ' τ' y = some o → atO ρ τ y = some o) {v : V} (hv : atV σ υ x = some v) (w : Own κ F (upd H a u) o' v (A x)) :
    G κ (upA A x (A x)) F (upd H a u) ρ' σ τ' υ ∧ Fr A F H (upA A x (A x)) F (upd H a u) := by
  have hH : ∀ b o, H b = some o → b ∉ A x → (upd H a u) b = some o := fun b o e n => by rw [upd_ne (fun z => n (by rw [z]; exact ha))]; exact e
  refine ⟨g.write len lent hx hy hv w (g.nd x) (fun b hb => .inl hb) hH, frWrite (fun b hb => .inl ⟨x, hb⟩) (fun y b hb => ⟨y, hb⟩) (fun b hb => ⟨x, hb⟩) hH fun b e => ?_⟩
  by_cases z : b = a
  · subst z; rw [upd_same]; simp
  · rw [upd_ne z]; exact e
theorem Own.lst_own {ds : List D} {v : V} {S : List Addr} (w : Own κ F H (.lst ds) v S) : ∃ a vs, v = .ref a ∧ S = [a] ∧ H a = some (.lst vs) ∧ Reps κ F vs ds := by
  cases w with
  | fd w => cases w with
    | ct w =>
      obtain ⟨vs, h1, h2⟩ := w
      exact ⟨_, vs, rfl, rfl, h1, h2⟩
theorem upA_id {x : Ix} : upA A x (A x) = A := by
  funext y; unfold upA; split
  · rename_i e; rw [e]
  · rfl
/-- the list on the top of the stack -/
theorem G.writeT {ds ds' : List D} {v : V} (g : G κ A F H ρ σ (τ ++ [.lst ds]) (υ ++ [v])) : ∃ a vs, v = .ref a ∧ H a = some (.lst vs) ∧ Reps κ F vs ds ∧ ∀ ws, Reps κ F ws ds' →
    G κ A F (upd H a (.lst ws)) ρ σ (τ ++ [.lst ds']) (υ ++ [v]) ∧ Fr A F H A F (upd H a (.lst ws)) := by
  have hl : τ.length = υ.length := by have := g.lent; simp at this; exact this
  obtain ⟨u, h1, h2⟩ := g.own (.t τ.length) _ atO_top
  rw [hl, atV_top] at h1; cases h1
  obtain ⟨a, vs, rfl, hS, h3, h4⟩ := h2.lst_own
  refine ⟨a, vs, rfl, h3, h4, fun ws r => ?_⟩
  have q := g.write1 (ρ' := ρ) (τ' := τ ++ [.lst ds']) (x := .t τ.length) (o := .lst ds) (o' := .lst ds') (a := a) (u := .lst ws) rfl (by simp) atO_top (by rw [hS]; simp) (fun o e => by rw [atO_top] at e; cases e; rfl)
    (fun y o n e => by rw [atO_app n] at e ⊢; exact e) (v := .ref a) (by rw [hl]; exact atV_top) (by rw [hS]; exact .fd (.ct ⟨ws, upd_same, r⟩))
  rw [upA_id] at q
  exact q
/-- a slot's list -/
theorem G.writeS {ds ds' : List D} {i : Nat} (g : G κ A F H ρ σ τ υ) (h : ρ[i]? = some (some (.lst ds))) : ∃ a vs, σ[i]? = some (some (.ref a)) ∧ A (.s i) = [a] ∧ H a = some (.lst vs) ∧ Reps κ F vs ds ∧ ∀ ws, Reps κ F ws ds' →
    G κ A F (upd H a (.lst ws)) (ρ.set i (some (.lst ds'))) σ τ υ ∧ Fr A F H A F (upd H a (.lst ws)) := by
  obtain ⟨v, h1, h2⟩ := g.slot h
  obtain ⟨a, vs, rfl, hS, h3, h4⟩ := h2.lst_own
  refine ⟨a, vs, h1, hS, h3, h4, fun ws r => ?_⟩
  have hi : i < ρ.length := by
    rcases Nat.lt_or_ge i ρ.length with q | q
    · exact q
    · rw [List.getElem?_eq_none q] at h; cases h
  have q := g.write1 (ρ' := ρ.set i (some (.lst ds'))) (τ' := τ) (x := .s i) (o := .lst ds) (o' := .lst ds') (a := a) (u := .lst ws) (by simp) rfl (by simp [atO, h]) (by rw [hS]; simp) (fun o e => by simp [atO, hi] at e; exact e.symm)
    (fun y o n e => by
      cases y with
      | t k => exact e
      | s j =>
        have hj : j ≠ i := fun z => n (by rw [z])
        simp only [atO] at e ⊢
        rw [List.getElem?_set_ne (Ne.symm hj)] at e
        exact e) (v := .ref a) (by simp [atV, h1]) (by rw [hS]; exact .fd (.ct ⟨ws, upd_same, r⟩))
  rw [upA_id] at q
  exact q
end

/-! ### targets -/
abbrev Bn := D → Env → Option Env
def bName (i : Nat) : Bn := fun d ρ => if i < ρ.length then some (ρ.set i (some (.sh d))) else none
def bSeq : List Bn → List D → Env → Option Env
  | [], [], ρ => some ρ
  | b :: bs, d :: ds, ρ => match b d ρ with
    | some ρ1 => bSeq bs ds ρ1
    | none => none
  | _, _, _ => none
def bTup (bs : List Bn) : Bn := fun d ρ => match d with
  | .tup ds => bSeq bs ds ρ
  | _ => none
/-- only the slots ts have changed -/
def Nt (ts : List Nat) (σ σ' : L2.St) : Prop := σ'.length = σ.length ∧ ∀ i, i ∉ ts → σ'[i]? = σ[i]?
theorem Nt.refl {ts : List Nat} {σ : L2.St} : Nt ts σ σ := ⟨rfl, fun _ _ => rfl⟩
theorem Nt.trans {ts us : List Nat} {σ σ1 σ2 : L2.St} (h : Nt ts σ σ1) (h' : Nt us σ1 σ2) : Nt (ts ++ us) σ σ2 :=
  ⟨h'.1.trans h.1, fun i n => (h'.2 i fun z => n (List.mem_append_right _ z)).trans (h.2 i fun z => n (List.mem_append_left _ z))⟩
theorem Nt.set {σ : L2.St} {i : Nat} {v : Option V} : Nt [i] σ (σ.set i v) := ⟨by simp, fun j n => by
  have hj : i ≠ j := fun z => n (by rw [z]; simp)
  rw [List.getElem?_set_ne hj]⟩
def tBn (κ : Kx) (ts : List Nat) (b : Bn) : TG := fun v σ H Q => ∃ A F ρ τ υ d ρ', G κ A F H ρ σ τ υ ∧ Rep κ F v d ∧ b d ρ = some ρ' ∧ ∀ σ' A', Fr A F H A' F H → G κ A' F H ρ' σ' τ υ → Nt ts σ σ' → Q σ' H
def tBns (κ : Kx) (ts : List Nat) (b : List D → Env → Option Env) : TGs := fun vs σ H Q => ∃ A F ρ τ υ ds ρ', G κ A F H ρ σ τ υ ∧ Reps κ F vs ds ∧ b ds ρ = some ρ' ∧ ∀ σ' A', Fr A F H A' F H → G κ A' F H ρ' σ' τ υ → Nt ts σ σ' → Q σ' H
section
variable {X : Cx} {κ : Kx}
theorem pg_imp {e : Expr} {t t' : TG} (h : PG X e t) (i : ∀ v σ H Q, t' v σ H Q → t v σ H Q) : PG X e t' := ⟨fun pins s σ H v u Q I r q => h.run pins s σ H v u Q I r (i v σ H Q q)⟩
theorem pgs_imp {e : List Expr} {t t' : TGs} (h : PGs X e t) (i : ∀ v σ H Q, t' v σ H Q → t v σ H Q) : PGs X e t' := ⟨fun pins s σ H v u Q I r q => h.run pins s σ H v u Q I r (i v σ H Q q)⟩
theorem bind_name {i : Nat} {A : Fp} {F H : Hp} {ρ : Env} {σ : L2.St} {τ : List O} {υ : List V} (g : G κ A F H ρ σ τ υ) {v : V} {d : D} (r : Rep κ F v d) : ∃ A', Fr A F H A' F H ∧ G κ A' F H (ρ.set i (some (.sh d))) (σ.set i (some v)) τ υ := by
  obtain ⟨g1, f1⟩ := g.pushSh r
  obtain ⟨g2, f2⟩ := g1.assign (i := i)
  exact ⟨_, f1.trans f2, g2⟩
theorem dG_name {i : Nat} {x : Str} {pos : Pos} (h : PG X (.Name x pos) (gName i)) : PG X (.Name x pos) (tBn κ [i] (bName i)) := pg_imp h fun v σ H Q ⟨A, F, ρ, τ, υ, d, ρ', g, r, e, q⟩ => by
  unfold bName at e
  split at e
  · cases e
    obtain ⟨A', f, g'⟩ := bind_name (i := i) g r
    exact q _ A' f g' Nt.set
  · cases e
theorem dGs_nil : PGs X [] (tBns κ [] (bSeq [])) := pgs_imp pgs_nil fun vs σ H Q ⟨A, F, ρ, τ, υ, ds, ρ', g, r, e, q⟩ => by
  cases r with
  | nil =>
    cases e
    exact ⟨rfl, q σ A .refl g .refl⟩
  | cons _ _ => cases e
theorem dGs_cons {e : Expr} {es : List Expr} {ts us : List Nat} {b : Bn} {bs : List Bn} (h1 : PG X e (tBn κ ts b)) (h2 : PGs X es (tBns κ us (bSeq bs)))
    (hs : (assignEach (e :: es) X.env).map (·.2) = assign e X.env :: (assignEach es X.env).map (·.2) := by rfl) : PGs X (e :: es) (tBns κ (ts ++ us) (bSeq (b :: bs))) :=
  pgs_imp (pgs_cons h1 h2 hs) fun vs σ H Q ⟨A, F, ρ, τ, υ, ds, ρ', g, r, e, q⟩ => by
    cases r with
    | nil => cases e
    | @cons v vs d ds r rs =>
      unfold bSeq at e
      split at e
      · rename_i ρ1 e1
        exact ⟨v, vs, rfl, A, F, ρ, τ, υ, d, ρ1, g, r, e1, fun σ1 A1 f1 g1 n1 => ⟨A1, F, ρ1, τ, υ, ds, ρ', g1, rs, e, fun σ2 A2 f2 g2 n2 => q σ2 A2 (f1.trans f2) g2 (n1.trans n2)⟩⟩
      · cases e
theorem bSeq_len : ∀ {bs : List Bn} {ds : List D} {ρ ρ' : Env}, bSeq bs ds ρ = some ρ' → ds.length = bs.length
  | [], [], _, _, _ => rfl
  | [], _ :: _, _, _, e => by simp [bSeq] at e
  | _ :: _, [], _, _, e => by simp [bSeq] at e
  | b :: bs, d :: ds, ρ, ρ', e => by
    unfold bSeq at e
    split at e
    · simp [bSeq_len e]
    · cases e
theorem dG_tup {es : List Expr} {k : Nat} {pos : Pos} {ts : List Nat} {bs : List Bn} (hc : X.calm = true) (h : PGs X es (tBns (kx X) ts (bSeq bs)))
    (hn : (assignEach es X.env).length = bs.length := by rfl) (hst : (assignEach es X.env).findIdx? (·.1) = none := by rfl) : PG X (.Tuple es k pos) (tBn (kx X) ts (bTup bs)) :=
  pg_imp (pg_tup hc h hn hst) fun v σ H Q ⟨A, F, ρ, τ, υ, d, ρ', g, r, e, q⟩ => by
    unfold bTup at e
    split at e
    · rename_i ds
      obtain ⟨a, vs, rfl, h1, h2⟩ := r.tup_v
      exact ⟨a, vs, rfl, SqT.of (g.fh _ _ h1), by rw [h2.length]; exact bSeq_len e, A, F, ρ, τ, υ, ds, ρ', g, h2, e, q⟩
    · cases e
end

/-! ### what is walked -/
structure JOk (κ : Kx) (J : It) (F : Hp) (ds : List D) : Prop where
  go : ∀ i F1 H1, Same F F1 → Same F1 H1 → i < ds.length → J.go i H1
  yld : ∀ i d A F1 H1 ρ σ τ υ x H2, Same F F1 → G κ A F1 H1 ρ σ τ υ → ds[i]? = some d → J.yld i H1 x H2 → ∃ A2 F2, Stp true ρ A F1 H1 ρ A2 F2 H2 ∧ G κ A2 F2 H2 ρ σ τ υ ∧ Rep κ F2 x d
  stop : ∀ i F1 H1, Same F F1 → Same F1 H1 → ds.length ≤ i → J.stop i H1
def tIt (κ : Kx) (W : WX') (p : Bool) (m : M (List D)) : TI := fun σ H R => ∃ A F ρ τ υ, G κ A F H ρ σ τ υ ∧ Wp κ W A F H σ τ υ (m ρ) fun ds ρ' => ∀ J A' F' H', Stp p ρ A F H ρ' A' F' H' → G κ A' F' H' ρ' σ τ υ → JOk κ J F' ds → R J H'
def seqD : D → M (List D)
  | .lst xs => mPure xs
  | .fz xs => mPure xs
  | .tup xs => mPure xs
  | _ => fun _ => .bad
theorem jok_lst {κ : Kx} {F : Hp} {a : Addr} {vs : List V} {ds : List D} (h : SqL κ.K F a vs) (r : Reps κ F vs ds) : JOk κ (Itl κ.K a) F ds where
  go := fun i F1 H1 e1 e2 hi => by
    have hi' : i < vs.length := by rw [r.length]; exact hi
    exact ⟨vs, vs[i], e2.seq (e1.seq h), by simp [hi']⟩
  yld := fun i d A F1 H1 ρ σ τ υ x H2 e1 g ed ⟨e, y⟩ => by
    subst e
    obtain ⟨v, h1, h2⟩ := r.get i ed
    have := y vs (g.fh.seq (e1.seq h))
    rw [h1] at this; cases this
    exact ⟨A, F1, .refl, g, h2.mono e1⟩
  stop := fun i F1 H1 e1 e2 hi => ⟨vs, e2.seq (e1.seq h), by rw [r.length]; exact hi⟩
theorem jok_tup {κ : Kx} {F : Hp} {a : Addr} {vs : List V} {ds : List D} (h : F a = some (.tup vs)) (r : Reps κ F vs ds) : JOk κ (Itt κ.K a) F ds where
  go := fun i F1 H1 e1 e2 hi => by
    have hi' : i < vs.length := by rw [r.length]; exact hi
    exact ⟨vs, vs[i], SqT.of (e2 _ _ (e1 _ _ h)), by simp [hi']⟩
  yld := fun i d A F1 H1 ρ σ τ υ x H2 e1 g ed ⟨e, y⟩ => by
    subst e
    obtain ⟨v, h1, h2⟩ := r.get i ed
    have := y vs (SqT.of (g.fh _ _ (e1 _ _ h)))
    rw [h1] at this; cases this
    exact ⟨A, F1, .refl, g, h2.mono e1⟩
  stop := fun i F1 H1 e1 e2 hi => ⟨vs, SqT.of (e2 _ _ (e1 _ _ h)), by rw [r.length]; exact hi⟩
/-- the ints lo, lo + 1, .. -/
def rngD (lo : Int) (n : Nat) : List D := (List.range n).map fun (k : Nat) => D.int (lo + (k : Int))
theorem rngD_len {lo : Int} {n : Nat} : (rngD lo n).length = n := by simp [rngD]
theorem rngD_get {lo : Int} {n i : Nat} {d : D} (h : (rngD lo n)[i]? = some d) : d = .int (lo + (i : Int)) := by
  simp only [rngD, List.getElem?_map] at h
  cases q : (List.range n)[i]? with
  | none => rw [q] at h; cases h
  | some k =>
    rw [q] at h
    have hk : k = i := by
      rw [List.getElem?_eq_some_iff] at q
      obtain ⟨hi, e⟩ := q
      simp at e
      exact e.symm
    subst hk
    cases h
    rfl
theorem jok_rng {κ : Kx} {F : Hp} {lo : Int} {n : Nat} : JOk κ (Itr lo n) F (rngD lo n) where
  go := fun i _ _ _ _ hi => by rw [rngD_len] at hi; exact hi
  yld := fun i d A F1 H1 ρ σ τ υ x H2 e1 g ed ⟨e, y⟩ => by
    subst e y
    rw [rngD_get ed]
    exact ⟨A, F1, .refl, g, .int _⟩
  stop := fun i _ _ _ _ hi => by rw [rngD_len] at hi; exact hi
/-- pairs -/
theorem new_tup {κ : Kx} {A : Fp} {F H : Hp} {ρ : Env} {σ : L2.St} {τ : List O} {υ : List V} (g : G κ A F H ρ σ τ υ) {p : Addr} {vs : List V} {ds : List D} (h : H p = none) (r : Reps κ F vs ds) :
    ∃ A2 F2, Stp true ρ A F H ρ A2 F2 (upd H p (.tup vs)) ∧ G κ A2 F2 (upd H p (.tup vs)) ρ σ τ υ ∧ Rep κ F2 (.ref p) (.tup ds) := by
  obtain ⟨g1, f1⟩ := g.share (.tup vs) h
  exact ⟨_, _, Stp.refl.then f1 (same_new h) fun _ => rfl, g1, .tup upd_same (r.mono f1.grow)⟩
def enumD : Nat → List D → List D
  | _, [] => []
  | k, d :: ds => .tup [.int (k : Int), d] :: enumD (k + 1) ds
theorem enumD_len : ∀ {k : Nat} {ds : List D}, (enumD k ds).length = ds.length
  | _, [] => rfl
  | k, _ :: ds => by simp [enumD, enumD_len (k := k + 1) (ds := ds)]
theorem enumD_get : ∀ {k i : Nat} {ds : List D} {d : D}, (enumD k ds)[i]? = some d → ∃ u, ds[i]? = some u ∧ d = .tup [.int ((k + i : Nat) : Int), u]
  | _, _, [], _, h => by simp [enumD] at h
  | k, 0, u :: ds, d, h => by
    simp [enumD] at h
    exact ⟨u, rfl, h.symm⟩
  | k, i + 1, _ :: ds, d, h => by
    simp only [enumD, List.getElem?_cons_succ] at h
    obtain ⟨u, h1, h2⟩ := enumD_get h
    exact ⟨u, by simpa using h1, by rw [h2]; congr 3; omega⟩
theorem jok_enum {κ : Kx} {F : Hp} {a : Addr} {vs : List V} {ds : List D} (h : F a = some (.lst vs)) (r : Reps κ F vs ds) : JOk κ (Ite κ.K a) F (enumD 0 ds) where
  go := fun i F1 H1 e1 e2 hi => by
    rw [enumD_len] at hi
    have hi' : i < vs.length := by rw [r.length]; exact hi
    exact ⟨vs, vs[i], SqL.of (e2 _ _ (e1 _ _ h)), by simp [hi']⟩
  yld := fun i d A F1 H1 ρ σ τ υ x H2 e1 g ed ⟨T, u, ex, hT, eH, y⟩ => by
    subst ex eH
    obtain ⟨w, h1, rfl⟩ := enumD_get ed
    obtain ⟨v, h3, h4⟩ := r.get i h1
    have := y vs (SqL.of (g.fh _ _ (e1 _ _ h)))
    rw [h3] at this; cases this
    rw [Nat.zero_add]
    exact new_tup g hT (.cons (.int _) (.cons (h4.mono e1) .nil))
  stop := fun i F1 H1 e1 e2 hi => ⟨vs, SqL.of (e2 _ _ (e1 _ _ h)), by rw [r.length]; rw [enumD_len] at hi; exact hi⟩
def zipD : List D → List D → List D
  | a :: as, b :: bs => .tup [a, b] :: zipD as bs
  | _, _ => []
theorem zipD_len : ∀ {as bs : List D}, (zipD as bs).length = min as.length bs.length
  | [], bs => by simp [zipD]
  | a :: as, [] => by simp [zipD]
  | a :: as, b :: bs => by simp only [zipD, List.length_cons, zipD_len (as := as) (bs := bs)]; omega
theorem zipD_get : ∀ {i : Nat} {as bs : List D} {d : D}, (zipD as bs)[i]? = some d → ∃ u w, as[i]? = some u ∧ bs[i]? = some w ∧ d = .tup [u, w]
  | i, [], bs, d, h => by simp [zipD] at h
  | i, a :: as, [], d, h => by simp [zipD] at h
  | 0, a :: as, b :: bs, d, h => by
    simp [zipD] at h
    exact ⟨a, b, rfl, rfl, h.symm⟩
  | i + 1, a :: as, b :: bs, d, h => by
    simp only [zipD, List.getElem?_cons_succ] at h
    obtain ⟨u, w, h1, h2, h3⟩ := zipD_get h
    exact ⟨u, w, by simpa using h1, by simpa using h2, h3⟩
theorem jok_zip {κ : Kx} {F : Hp} {a b : Addr} {vs ws : List V} {ds es : List D} (h : F a = some (.lst vs)) (r : Reps κ F vs ds) (h' : F b = some (.lst ws)) (r' : Reps κ F ws es) : JOk κ (Itz κ.K a b) F (zipD ds es) where
  go := fun i F1 H1 e1 e2 hi => by
    rw [zipD_len] at hi
    have hi' : i < vs.length := by rw [r.length]; omega
    have hi'' : i < ws.length := by rw [r'.length]; omega
    exact ⟨vs, ws, vs[i], ws[i], SqL.of (e2 _ _ (e1 _ _ h)), SqL.of (e2 _ _ (e1 _ _ h')), by simp [hi'], by simp [hi'']⟩
  yld := fun i d A F1 H1 ρ σ τ υ x H2 e1 g ed ⟨T, u, w, ex, hT, eH, y, y'⟩ => by
    subst ex eH
    obtain ⟨d1, d2, h1, h2, rfl⟩ := zipD_get ed
    obtain ⟨v, h3, h4⟩ := r.get i h1
    obtain ⟨v', h5, h6⟩ := r'.get i h2
    have := y vs (SqL.of (g.fh _ _ (e1 _ _ h)))
    rw [h3] at this; cases this
    have := y' ws (SqL.of (g.fh _ _ (e1 _ _ h')))
    rw [h5] at this; cases this
    exact new_tup g hT (.cons (h4.mono e1) (.cons (h6.mono e1) .nil))
  stop := fun i F1 H1 e1 e2 hi => ⟨vs, ws, SqL.of (e2 _ _ (e1 _ _ h)), SqL.of (e2 _ _ (e1 _ _ h')), by rw [r.length, r'.length]; rw [zipD_len] at hi; omega⟩
theorem jok_zipT {κ : Kx} {F : Hp} {a b : Addr} {vs ws : List V} {ds es : List D} (h : F a = some (.tup vs)) (r : Reps κ F vs ds) (h' : F b = some (.tup ws)) (r' : Reps κ F ws es) : JOk κ (ItzT κ.K a b) F (zipD ds es) where
  go := fun i F1 H1 e1 e2 hi => by
    rw [zipD_len] at hi
    have hi' : i < vs.length := by rw [r.length]; omega
    have hi'' : i < ws.length := by rw [r'.length]; omega
    exact ⟨vs, ws, vs[i], ws[i], SqT.of (e2 _ _ (e1 _ _ h)), SqT.of (e2 _ _ (e1 _ _ h')), by simp [hi'], by simp [hi'']⟩
  yld := fun i d A F1 H1 ρ σ τ υ x H2 e1 g ed ⟨T, u, w, ex, hT, eH, y, y'⟩ => by
    subst ex eH
    obtain ⟨d1, d2, h1, h2, rfl⟩ := zipD_get ed
    obtain ⟨v, h3, h4⟩ := r.get i h1
    obtain ⟨v', h5, h6⟩ := r'.get i h2
    have := y vs (SqT.of (g.fh _ _ (e1 _ _ h)))
    rw [h3] at this; cases this
    have := y' ws (SqT.of (g.fh _ _ (e1 _ _ h')))
    rw [h5] at this; cases this
    exact new_tup g hT (.cons (h4.mono e1) (.cons (h6.mono e1) .nil))
  stop := fun i F1 H1 e1 e2 hi => ⟨vs, ws, SqT.of (e2 _ _ (e1 _ _ h)), SqT.of (e2 _ _ (e1 _ _ h')), by rw [r.length, r'.length]; rw [zipD_len] at hi; omega⟩
section
variable {X : Cx} {W : WX'} {e a b tg : Expr} {p q : Bool} {ps pos tpos : Pos} {elts : List Expr} {kk : Nat}
theorem pi_either {t u : TI} (h1 : PI X tg e t) (h2 : PI X tg e u) : PI X tg e (fun σ H R => t σ H R ∨ u σ H R) := ⟨fun pins s σ H R I h => h.elim (h1.run pins s σ H R I) (h2.run pins s σ H R I)⟩
theorem pi_imp {t t' : TI} (h : PI X tg e t) (i : ∀ σ H R, t' σ H R → t σ H R) : PI X tg e t' := ⟨fun pins s σ H R I q => h.run pins s σ H R I (i σ H R q)⟩
def isLst : D → Bool
  | .lst _ => true
  | _ => false
/-- over a list or a tuple, shared -/
theorem dI_seq {m : M D} (hl : ∀ {t}, PE X e t → PI X tg e (iList X.K t)) (ht : ∀ {t}, PE X e t → PI X tg e (iTup X.K t)) (h : PE X e (tV (kx X) W p m)) : PI X tg e (tIt (kx X) W p (mBind m seqD)) :=
  pi_imp (pi_either (hl h) (ht h)) fun σ H R ⟨A, F, ρ, τ, υ, g, h⟩ => by
    have h1 := h.bind
    cases e1 : m ρ with
    | bad => rw [e1] at h1; exact h1.elim
    | exc d ρ1 =>
      rw [e1] at h1
      exact .inl ⟨A, F, ρ, τ, υ, g, by rw [e1]; exact h1⟩
    | ok d ρ1 =>
      rw [e1] at h1
      have h1 : Wp (kx X) W A F H σ τ υ (seqD d ρ1) _ := h1
      cases d with
      | lst xs =>
        refine .inl ⟨A, F, ρ, τ, υ, g, ?_⟩
        rw [e1]
        intro v A' F' H' s g' r
        obtain ⟨c, vs, rfl, h2, h3⟩ := r.lst_v
        exact ⟨c, rfl, ⟨vs, SqL.of (g'.fh _ _ h2)⟩, h1 _ A' F' H' s g' (jok_lst (SqL.of h2) h3)⟩
      | fz xs =>
        refine .inl ⟨A, F, ρ, τ, υ, g, ?_⟩
        rw [e1]
        intro v A' F' H' s g' r
        obtain ⟨c, vs, rfl, h2, h3⟩ := r.fz_v
        exact ⟨c, rfl, ⟨vs, g'.fh.seq h2⟩, h1 _ A' F' H' s g' (jok_lst h2 h3)⟩
      | tup xs =>
        refine .inr ⟨A, F, ρ, τ, υ, g, ?_⟩
        rw [e1]
        intro v A' F' H' s g' r
        obtain ⟨c, vs, rfl, h2, h3⟩ := r.tup_v
        exact ⟨c, rfl, ⟨vs, SqT.of (g'.fh _ _ h2)⟩, h1 _ A' F' H' s g' (jok_tup h2 h3)⟩
      | _ => exact h1.elim
def rng1 : List D → M (List D)
  | [.int j] => if -(2 ^ 62) ≤ j ∧ j < 2 ^ 62 then mPure (rngD 0 j.toNat) else fun _ => .bad
  | _ => fun _ => .bad
def rng2 : List D → M (List D)
  | [.int i, .int j] => if -(2 ^ 62) ≤ i ∧ i < 2 ^ 62 ∧ -(2 ^ 62) ≤ j ∧ j < 2 ^ 62 then mPure (rngD i (j - i).toNat) else fun _ => .bad
  | _ => fun _ => .bad
theorem dI_rng1 {κ : Kx} {ms : M (List D)} (h : PI X tg e (iRng1 (tVs κ W p ms))) : PI X tg e (tIt κ W p (mBind ms rng1)) :=
  pi_imp h fun σ H R ⟨A, F, ρ, τ, υ, g, h⟩ => ⟨A, F, ρ, τ, υ, g, h.bind.imp fun ds ρ' h vs A' F' H' s g' r => by
    unfold rng1 at h
    split at h
    · rename_i j
      split at h
      · rename_i hb
        cases r with
        | cons r r2 =>
          cases r2
          exact ⟨j, by rw [r.int_v], hb.1, hb.2, h _ A' F' H' s g' jok_rng⟩
      · exact h.elim
    · exact h.elim⟩
theorem dI_rng2 {κ : Kx} {ms : M (List D)} (h : PI X tg e (iRng2 (tVs κ W p ms))) : PI X tg e (tIt κ W p (mBind ms rng2)) :=
  pi_imp h fun σ H R ⟨A, F, ρ, τ, υ, g, h⟩ => ⟨A, F, ρ, τ, υ, g, h.bind.imp fun ds ρ' h vs A' F' H' s g' r => by
    unfold rng2 at h
    split at h
    · rename_i i j
      split at h
      · rename_i hb
        cases r with
        | cons r r2 =>
          cases r2 with
          | cons r2 r3 =>
            cases r3
            exact ⟨i, j, by rw [r.int_v, r2.int_v], hb, h _ A' F' H' s g' jok_rng⟩
      · exact h.elim
    · exact h.elim⟩
def enumL : List D → M (List D)
  | [.lst xs] => mPure (enumD 0 xs)
  | _ => fun _ => .bad
theorem dI_enumL {ms : M (List D)} (h : PI X tg e (iEnum X.K (tVs (kx X) W p ms))) : PI X tg e (tIt (kx X) W p (mBind ms enumL)) :=
  pi_imp h fun σ H R ⟨A, F, ρ, τ, υ, g, h⟩ => ⟨A, F, ρ, τ, υ, g, h.bind.imp fun ds ρ' h vs A' F' H' s g' r => by
    unfold enumL at h
    split at h
    · cases r with
      | cons r r2 =>
        cases r2
        obtain ⟨c, vs, rfl, h2, h3⟩ := r.lst_v
        exact ⟨c, vs, rfl, SqL.of (g'.fh _ _ h2), h _ A' F' H' s g' (jok_enum h2 h3)⟩
    · exact h.elim⟩
def zipM : List D → M (List D)
  | [.lst xs, .lst ys] => mPure (zipD xs ys)
  | [.tup xs, .tup ys] => mPure (zipD xs ys)
  | _ => fun _ => .bad
theorem dI_zip {ms : M (List D)} (h : PI X tg e (iZipA X.K (tVs (kx X) W p ms))) : PI X tg e (tIt (kx X) W p (mBind ms zipM)) :=
  pi_imp h fun σ H R ⟨A, F, ρ, τ, υ, g, h⟩ => ⟨A, F, ρ, τ, υ, g, h.bind.imp fun ds ρ' h vs A' F' H' s g' r => by
    unfold zipM at h
    split at h
    · cases r with
      | cons r r2 =>
        cases r2 with
        | cons r2 r3 =>
          cases r3
          obtain ⟨c, vs, rfl, h2, h3⟩ := r.lst_v
          obtain ⟨c', ws, rfl, h4, h5⟩ := r2.lst_v
          exact ⟨c, c', vs, ws, rfl, .inl ⟨SqL.of (g'.fh _ _ h2), SqL.of (g'.fh _ _ h4), h _ A' F' H' s g' (jok_zip h2 h3 h4 h5)⟩⟩
    · cases r with
      | cons r r2 =>
        cases r2 with
        | cons r2 r3 =>
          cases r3
          obtain ⟨c, vs, rfl, h2, h3⟩ := r.tup_v
          obtain ⟨c', ws, rfl, h4, h5⟩ := r2.tup_v
          exact ⟨c, c', vs, ws, rfl, .inr ⟨SqT.of (g'.fh _ _ h2), SqT.of (g'.fh _ _ h4), h _ A' F' H' s g' (jok_zipT h2 h3 h4 h5)⟩⟩
    · exact h.elim⟩
end
end DL

end

section
set_option Elab.async false
set_option linter.all false
set_option maxRecDepth 100000
/-! DL, part G: statements, loops, comprehensions. -/
namespace DL
open PySem L2 RZ

section
variable {κ : Kx} {W : WX'} {mu : List Nat} {E : Ends} {σ σ1 : L2.St} {A A1 : Fp} {F F1 H H1 : Hp} {ρ : Env} {α : Type}
theorem PsO.step {out : OutS} (h : PsO κ W mu E σ A F H out) (f : Fr A F H A1 F1 H1) (hm : ∀ i ∈ mu, σ1[i]? = σ[i]?) : PsO κ W mu E σ1 A1 F1 H1 out := by
  cases out with
  | bad => exact h
  | next ρ' => exact fun σ' A' F' H' f' g' m' => h σ' A' F' H' (f.trans f') g' fun i hi => (m' i hi).trans (hm i hi)
  | ret r ρ' => exact fun v σ' A' F' H' f' g' m' => h v σ' A' F' H' (f.trans f') g' fun i hi => (m' i hi).trans (hm i hi)
  | brk ρ' => exact fun σ' A' F' H' f' g' m' => h σ' A' F' H' (f.trans f') g' fun i hi => (m' i hi).trans (hm i hi)
  | cont ρ' => exact fun σ' A' F' H' f' g' m' => h σ' A' F' H' (f.trans f') g' fun i hi => (m' i hi).trans (hm i hi)
  | exc e ρ' => exact fun cls d σ' A' F' H' f' g' x' m' => h cls d σ' A' F' H' (f.trans f') g' x' fun i hi => (m' i hi).trans (hm i hi)
def sBind {α : Type} (m : M α) (k : α → MS) : MS := fun ρ => match m ρ with
  | .bad => .bad
  | .ok a ρ' => k a ρ'
  | .exc e ρ' => .exc e ρ'
theorem PsO.bind {m : M α} {k : α → MS} (h : PsO κ W mu E σ A F H (sBind m k ρ)) : Wp κ W A F H σ [] [] (m ρ) fun a ρ1 => PsO κ W mu E σ A F H (k a ρ1) := by
  unfold sBind at h
  cases e : m ρ with
  | bad => rw [e] at h; exact h
  | ok a ρ' => rw [e] at h; exact h
  | exc x ρ' =>
    rw [e] at h
    exact fun cls d A' F' H' f g q => h cls d σ A' F' H' f g q fun _ _ => rfl
theorem PsO.next {ρ' : Env} (h : PsO κ W mu E σ A F H (.next ρ')) (f : Fr A F H A1 F1 H1) (g : G κ A1 F1 H1 ρ' σ1 [] []) (hm : ∀ i ∈ mu, σ1[i]? = σ[i]?) : E.nx σ1 H1 := h σ1 A1 F1 H1 f g hm
end
def sNext : MS := fun ρ => .next ρ
def sSeq (m n : MS) : MS := fun ρ => match m ρ with
  | .next ρ' => n ρ'
  | o => o
def sIf (t : M Bool) (m n : MS) : MS := sBind t fun b => if b then m else n
def sRet (m : M O) : MS := sBind m fun r ρ => .ret r ρ
def sRetN : MS := fun ρ => .ret (.sh .non) ρ
def sExpr (m : M O) : MS := sBind m fun _ ρ => .next ρ
def sBrk : MS := fun ρ => .brk ρ
def sCont : MS := fun ρ => .cont ρ
def sBad : MS := fun _ => .bad
def sAsg (i : Nat) (m : M O) : MS := sBind m fun r ρ => .next (ρ.set i (some r))
def sTg (b : Bn) (m : M D) : MS := sBind m fun d ρ => match b d ρ with
  | some ρ' => .next ρ'
  | none => .bad
def sPar (i j : Nat) (ms : M (List O)) : MS := sBind ms fun rs ρ => match rs with
  | [r, s] => .next ((ρ.set j (some s)).set i (some r))
  | _ => .bad
def sPar3 (i j l : Nat) (ms : M (List O)) : MS := sBind ms fun rs ρ => match rs with
  | [r, s, t] => .next (((ρ.set l (some t)).set j (some s)).set i (some r))
  | _ => .bad
/-- expressions in a row: their values on the stack -/
def tEs (κ : Kx) (W : WX') (p : Bool) (m : M (List O)) : TA := fun σ H Q => ∃ A F ρ τ υ, G κ A F H ρ σ τ υ ∧ Wp κ W A F H σ τ υ (m ρ) fun rs ρ' => ∀ vs A' F' H', Stp p ρ A F H ρ' A' F' H' → G κ A' F' H' ρ' σ (τ ++ rs) (υ ++ vs) → vs.length = rs.length → Q vs H'
def mConsO (m : M O) (ms : M (List O)) : M (List O) := mBind m fun o => mBind ms fun os => mPure (o :: os)
theorem XX.pop {κ : Kx} {W : WX'} {A : Fp} {F H : Hp} {σ : L2.St} {τ : List O} {υ : List V} {e : D} {ρ' : Env} (x : XX κ W A F H σ τ υ e ρ') {r : O} {v : V} : XX κ W A F H σ (τ ++ [r]) (υ ++ [v]) e ρ' :=
  fun cls d A2 F2 H2 f2 g q => by
    obtain ⟨g', _, f'⟩ := g.pop
    exact x cls d _ F2 H2 (f2.trans f') g' q
theorem Wp.pop {κ : Kx} {W : WX'} {A : Fp} {F H : Hp} {σ : L2.St} {τ : List O} {υ : List V} {α : Type} {out : Out α} {q : α → Env → Prop} (h : Wp κ W A F H σ τ υ out q) {r : O} {v : V} : Wp κ W A F H σ (τ ++ [r]) (υ ++ [v]) out q := by
  cases out with
  | bad => exact h
  | ok a ρ' => exact h
  | exc e ρ' => exact XX.pop h
section
variable {X : Cx} {κ : Kx} {W : WX'} {mu : List Nat} {e c : Expr} {es : List Expr} {st : Stmt} {rest a b : List Stmt} {p q : Bool} {pos : Pos}
theorem dS_nil : PSs X [] (tS κ W mu sNext) := pss_imp pss_nil fun E σ H ⟨A, F, ρ, g, h⟩ => h σ A F H .refl g fun _ _ => rfl
theorem dS_cons {m n : MS} (h1 : PS X st (tS κ W mu m)) (h2 : PSs X rest (tS κ W mu n)) : PSs X (st :: rest) (tS κ W mu (sSeq m n)) := pss_imp (pss_cons h1 h2) fun E σ H ⟨A, F, ρ, g, h⟩ => by
  refine ⟨A, F, ρ, g, ?_⟩
  unfold sSeq at h
  cases e : m ρ with
  | next ρ' =>
    rw [e] at h
    exact fun σ' A' F' H' f' g' m' => ⟨A', F', ρ', g', PsO.step h f' m'⟩
  | bad => rw [e] at h; exact h
  | ret r ρ' => rw [e] at h; exact h
  | brk ρ' => rw [e] at h; exact h
  | cont ρ' => rw [e] at h; exact h
  | exc x ρ' => rw [e] at h; exact h
theorem dS_one {m : MS} (h : PS X st (tS κ W mu m)) : PSs X [st] (tS κ W mu m) := pss_one h
theorem dS_pass : PS X (.Pass pos) (tS κ W mu sNext) := ps_imp ps_pass fun E σ H ⟨A, F, ρ, g, h⟩ => h σ A F H .refl g fun _ _ => rfl
theorem dS_doc {x : Str} {j : Nat} {pos' : Pos} : PS X (.Expr (.Constant (.str x) j pos) pos') (tS κ W mu sNext) := ps_imp ps_doc fun E σ H ⟨A, F, ρ, g, h⟩ => h σ A F H .refl g fun _ _ => rfl
theorem dS_brk : PS X (.Break pos) (tS κ W mu sBrk) := ps_imp ps_break fun E σ H ⟨A, F, ρ, g, h⟩ => h σ A F H .refl g fun _ _ => rfl
theorem dS_cont : PS X (.Continue pos) (tS κ W mu sCont) := ps_imp ps_continue fun E σ H ⟨A, F, ρ, g, h⟩ => h σ A F H .refl g fun _ _ => rfl
theorem dS_bad : PS X st (tS κ W mu sBad) := ps_imp ps_never fun E σ H ⟨A, F, ρ, g, h⟩ => h
theorem dSs_bad : PSs X rest (tS κ W mu sBad) := pss_imp pss_never fun E σ H ⟨A, F, ρ, g, h⟩ => h
theorem dS_if {t : M Bool} {m n : MS} (ht : PT X c (tT κ W p t)) (ha : PSs X a (tS κ W mu m)) (hb : PSs X b (tS κ W mu n)) : PS X (.If c a b pos) (tS κ W mu (sIf t m n)) :=
  ps_imp (ps_if ht ha hb) fun E σ H ⟨A, F, ρ, g, h⟩ => ⟨A, F, ρ, [], [], g, h.bind.imp fun k ρ1 h A1 F1 H1 s1 g1 => by
    cases k with
    | true => exact ⟨A1, F1, ρ1, g1, PsO.step h s1.fr fun _ _ => rfl⟩
    | false => exact ⟨A1, F1, ρ1, g1, PsO.step h s1.fr fun _ _ => rfl⟩⟩
theorem dS_ret {m : M O} (h : PE X e (tE κ W p m)) : PS X (.Return (some e) pos) (tS κ W mu (sRet m)) := ps_imp (ps_ret h) fun E σ H ⟨A, F, ρ, g, h⟩ => ⟨A, F, ρ, [], [], g, h.bind.imp fun r ρ1 h v A1 F1 H1 s1 g1 => h v σ A1 F1 H1 s1.fr g1 fun _ _ => rfl⟩
theorem dS_retN : PS X (.Return none pos) (tS κ W mu sRetN) := ps_imp ps_retN fun E σ H ⟨A, F, ρ, g, h⟩ => h .non σ _ F H (g.pushSh .non).2 (g.pushSh .non).1 fun _ _ => rfl
theorem dS_expr {m : M O} (h : PE X e (tE κ W p m)) (hs : swapsWith e none pos.line X.env = pure false := by rfl) : PS X (.Expr e pos) (tS κ W mu (sExpr m)) := ps_imp (ps_expr h hs) fun E σ H ⟨A, F, ρ, g, h⟩ => ⟨A, F, ρ, [], [], g, h.bind.imp fun r ρ1 h v A1 F1 H1 s1 g1 => by
  obtain ⟨g2, _, f2⟩ := G.pop (τ := []) (υ := []) g1
  exact h σ _ F1 H1 (s1.fr.trans f2) g2 fun _ _ => rfl⟩
theorem dS_set {i : Nat} {x : Str} {pos' : Pos} {m : M O} (h : ∀ t, PE X e t → PS X (.Assign [.Name x pos'] e pos) (tAsg t (gName i))) (he : PE X e (tE κ W p m)) (hm : i ∉ mu) : PS X (.Assign [.Name x pos'] e pos) (tS κ W mu (sAsg i m)) :=
  ps_imp (h _ he) fun E σ H ⟨A, F, ρ, g, h⟩ => ⟨A, F, ρ, [], [], g, h.bind.imp fun r ρ1 h v A1 F1 H1 s1 g1 => by
    obtain ⟨g2, f2⟩ := G.assign (τ := []) (υ := []) (i := i) g1
    exact h _ _ F1 H1 (s1.fr.trans f2) g2 fun j hj => List.getElem?_set_ne (fun z => hm (by rw [z]; exact hj))⟩
theorem dS_tg {tg : Expr} {ts : List Nat} {b : Bn} {m : M D} (h : ∀ t u, PE X e t → PG X tg u → PS X (.Assign [tg] e pos) (tAsg t u)) (he : PE X e (tV κ W p m)) (hg : PG X tg (tBn κ ts b)) (hm : ∀ i ∈ mu, i ∉ ts) : PS X (.Assign [tg] e pos) (tS κ W mu (sTg b m)) :=
  ps_imp (h _ _ he hg) fun E σ H ⟨A, F, ρ, g, h⟩ => ⟨A, F, ρ, [], [], g, h.bind.imp fun d ρ1 h v A1 F1 H1 s1 g1 r => by
    cases e1 : b d ρ1 with
    | none => rw [e1] at h; exact h.elim
    | some ρ2 =>
      rw [e1] at h
      exact ⟨A1, F1, ρ1, [], [], d, ρ2, g1, r, e1, fun σ2 A2 f2 g2 n2 => h σ2 A2 F1 H1 (s1.fr.trans f2) g2 fun i hi => n2.2 i (hm i hi)⟩⟩
theorem dEs_nil : PA X [] (tEs κ W true (mPure [])) := pa_imp pa_nil fun σ H Q ⟨A, F, ρ, τ, υ, g, h⟩ => h [] A F H .refl (by simpa using g) rfl
theorem dEs_cons {m : M O} {ms : M (List O)} (h1 : PE X e (tE κ W p m)) (h2 : PA X es (tEs κ W q ms)) (hs : starEach (e :: es) X.env = (false, eval e X.env) :: starEach es X.env := by rfl) : PA X (e :: es) (tEs κ W (p && q) (mConsO m ms)) :=
  pa_imp (pa_cons h1 h2 hs) fun σ H Q ⟨A, F, ρ, τ, υ, g, h⟩ =>
    ⟨A, F, ρ, τ, υ, g, h.bind.imp fun r ρ1 h v A1 F1 H1 s1 g1 => ⟨A1, F1, ρ1, τ ++ [r], υ ++ [v], g1, ((h.step s1.fr).bind.pop).imp fun rs ρ2 h vs A2 F2 H2 s2 g2 l2 => h (v :: vs) A2 F2 H2 (s1.trans s2) (by simpa using g2) (by simp [l2])⟩⟩
theorem dS_par {i j : Nat} {s : Stmt} {ms : M (List O)} {es : List Expr} (h : ∀ t, PA X es t → PS X s (tPar i j t)) (ha : PA X es (tEs κ W p ms)) (hij : i ≠ j) (hi : i ∉ mu) (hj : j ∉ mu) : PS X s (tS κ W mu (sPar i j ms)) :=
  ps_imp (h _ ha) fun E σ H ⟨A, F, ρ, g, h⟩ => ⟨A, F, ρ, [], [], g, h.bind.imp fun rs ρ1 h vs A1 F1 H1 s1 g1 l1 => by
    split at h
    · rename_i r s
      match vs, l1 with
      | [v, w], _ =>
        refine ⟨v, w, rfl, ?_⟩
        obtain ⟨g2, f2⟩ := G.assign (τ := [r]) (υ := [v]) (r := s) (v := w) (i := j) g1
        obtain ⟨g3, f3⟩ := G.assign (τ := []) (υ := []) (i := i) g2
        have e1 : (List.set σ j (some w)).set i (some v) = (List.set σ i (some v)).set j (some w) := List.set_comm _ _ (Ne.symm hij)
        rw [e1] at g3
        refine h _ _ F1 H1 ((s1.fr.trans f2).trans f3) g3 fun k hk => ?_
        rw [List.getElem?_set_ne (fun z => hj (by rw [z]; exact hk)), List.getElem?_set_ne (fun z => hi (by rw [z]; exact hk))]
    · exact h.elim⟩
end
end DL

end

section
set_option Elab.async false
set_option linter.all false
set_option maxRecDepth 100000
/-! DL, part H: loops, comprehensions. -/
namespace DL
open PySem L2 RZ

/-! ### for -/
def forGo (b : Bn) (body : MS) : List D → MS
  | [], ρ => .next ρ
  | d :: ds, ρ => match b d ρ with
    | none => .bad
    | some ρ1 => match body ρ1 with
      | .next ρ2 => forGo b body ds ρ2
      | .cont ρ2 => forGo b body ds ρ2
      | .brk ρ2 => .next ρ2
      | .ret r ρ2 => .ret r ρ2
      | .exc e ρ2 => .exc e ρ2
      | .bad => .bad
theorem forGo_cons {b : Bn} {body : MS} {d : D} {ds : List D} {ρ : Env} : forGo b body (d :: ds) ρ = match b d ρ with
    | none => .bad
    | some ρ1 => match body ρ1 with
      | .next ρ2 => forGo b body ds ρ2
      | .cont ρ2 => forGo b body ds ρ2
      | .brk ρ2 => .next ρ2
      | .ret r ρ2 => .ret r ρ2
      | .exc e ρ2 => .exc e ρ2
      | .bad => .bad := rfl
def sFor (src : M (List D)) (b : Bn) (body : MS) : MS := sBind src fun ds => forGo b body ds
theorem drop_cons {α : Type} {xs : List α} {i : Nat} {x : α} (h : xs[i]? = some x) : xs.drop i = x :: xs.drop (i + 1) := by
  rw [List.getElem?_eq_some_iff] at h
  obtain ⟨hi, e⟩ := h
  rw [← e]
  exact List.drop_eq_getElem_cons hi
section
variable {X : Cx} {W : WX'} {mu ts : List Nat} {tg iter : Expr} {body : List Stmt} {p : Bool} {pos : Pos}
theorem dS_for {κ : Kx} {st : Stmt} {src : M (List D)} {b : Bn} {m : MS} {wi : TI} (h : ∀ g tb, PG X tg g → PSs X body tb → PS X st (tFor wi g tb)) (hi : ∀ σ H R, tIt κ W p src σ H R → wi σ H R) (hg : PG X tg (tBn κ ts b)) (hb : PSs X body (tS κ W mu m)) (hm : ∀ i ∈ mu, i ∉ ts) :
    PS X st (tS κ W mu (sFor src b m)) :=
  ps_imp (h _ _ hg hb) fun E σ H ⟨A, F, ρ, g, h⟩ => hi _ _ _ ⟨A, F, ρ, [], [], g, h.bind.imp fun ds ρ1 h J A1 F1 H1 s1 g1 j => by
    refine ⟨fun i n σ' H' => n = ds.length - i ∧ i ≤ ds.length ∧ ∃ A' F' ρ', Fr A F H A' F' H' ∧ Same F1 F' ∧ G κ A' F' H' ρ' σ' [] [] ∧ (∀ k ∈ mu, σ'[k]? = σ[k]?) ∧ forGo b m ds ρ1 = forGo b m (ds.drop i) ρ',
      ⟨ds.length, by simp, Nat.zero_le _, A1, F1, ρ1, s1.fr, Same.refl _, g1, fun _ _ => rfl, by simp⟩, ?_⟩
    rintro i n σ' H' ⟨rfl, hi, A', F', ρ', f', e', g', m', z'⟩
    by_cases hlt : i < ds.length
    · refine .inr ⟨j.go i F' H' e' g'.fh hlt, ?_⟩
      have ed : ds[i]? = some ds[i] := List.getElem?_eq_getElem hlt
      have h2 := h
      rw [z', drop_cons ed] at h2
      refine ⟨fun σ2 H2 => (i + 1 ≤ ds.length ∧ ∃ A' F' ρ', Fr A F H A' F' H2 ∧ Same F1 F' ∧ G κ A' F' H2 ρ' σ2 [] [] ∧ (∀ k ∈ mu, σ2[k]? = σ[k]?) ∧ forGo b m ds ρ1 = forGo b m (ds.drop (i + 1)) ρ'),
        fun σ2 H2 ⟨hle, x⟩ => ⟨ds.length - (i + 1), by omega, rfl, hle, x⟩, fun x H2 y => ?_⟩
      obtain ⟨A2, F2, s2, g2, r2⟩ := j.yld i _ A' F' H' ρ' σ' [] [] x H2 e' g' ed y
      rw [forGo_cons] at h2
      cases eb : b ds[i] ρ' with
      | none => rw [eb] at h2; exact h2.elim
      | some ρ3 =>
        rw [eb] at h2
        refine ⟨A2, F2, ρ', [], [], _, ρ3, g2, r2, eb, fun σ3 A3 f3 g3 n3 => ⟨A3, F2, ρ3, g3, ?_⟩⟩
        have hz : forGo b m ds ρ1 = (match m ρ3 with
          | .next ρ2 => forGo b m (ds.drop (i + 1)) ρ2
          | .cont ρ2 => forGo b m (ds.drop (i + 1)) ρ2
          | .brk ρ2 => .next ρ2
          | .ret r ρ2 => .ret r ρ2
          | .exc e ρ2 => .exc e ρ2
          | .bad => .bad) := by rw [z', drop_cons ed, forGo_cons, eb]
        have hm3 : ∀ k ∈ mu, σ3[k]? = σ[k]? := fun k hk => (n3.2 k (hm k hk)).trans (m' k hk)
        have fr3 : Fr A F H A3 F2 H2 := (f'.trans s2.fr).trans f3
        have gr3 : Same F1 F2 := e'.trans s2.fr.grow
        simp only at h2
        cases em : m ρ3 with
        | bad => rw [em] at h2; exact h2
        | next ρ4 =>
          rw [em] at hz
          exact fun σ4 A4 F4 H4 f4 g4 m4 => ⟨hlt, A4, F4, ρ4, fr3.trans f4, gr3.trans f4.grow, g4, fun k hk => (m4 k hk).trans (hm3 k hk), hz⟩
        | cont ρ4 =>
          rw [em] at hz
          exact fun σ4 A4 F4 H4 f4 g4 m4 => ⟨hlt, A4, F4, ρ4, fr3.trans f4, gr3.trans f4.grow, g4, fun k hk => (m4 k hk).trans (hm3 k hk), hz⟩
        | brk ρ4 =>
          rw [em] at h2
          exact fun σ4 A4 F4 H4 f4 g4 m4 => h2 σ4 A4 F4 H4 (fr3.trans f4) g4 fun k hk => (m4 k hk).trans (hm3 k hk)
        | ret r ρ4 =>
          rw [em] at h2
          exact fun v σ4 A4 F4 H4 f4 g4 m4 => h2 v σ4 A4 F4 H4 (fr3.trans f4) g4 fun k hk => (m4 k hk).trans (hm3 k hk)
        | exc e ρ4 =>
          rw [em] at h2
          exact fun cls d σ4 A4 F4 H4 f4 g4 x4 m4 => h2 cls d σ4 A4 F4 H4 (fr3.trans f4) g4 x4 fun k hk => (m4 k hk).trans (hm3 k hk)
    · have hi' : i = ds.length := by omega
      refine .inl ⟨j.stop i F' H' e' g'.fh (by omega), ?_⟩
      have h2 := h
      rw [z', hi', List.drop_length] at h2
      exact h2 σ' A' F' H' f' g' m'⟩
end

/-! ### comprehensions -/
def wipeE (ρ : Env) : List Nat → Env
  | [] => ρ
  | v :: vs => (wipeE ρ vs).set v none
theorem wipeE_len (ρ : Env) : ∀ vs : List Nat, (wipeE ρ vs).length = ρ.length
  | [] => rfl
  | v :: vs => by unfold wipeE; rw [List.length_set, wipeE_len ρ vs]
theorem wipeE_some {ρ : Env} {i : Nat} {o : O} : ∀ {vs : List Nat}, (wipeE ρ vs)[i]? = some (some o) → ρ[i]? = some (some o) ∧ i ∉ vs
  | [], h => ⟨h, by simp⟩
  | v :: vs, h => by
    unfold wipeE at h
    by_cases hi : v = i
    · subst hi
      rcases Nat.lt_or_ge v (wipeE ρ vs).length with q | q
      · rw [List.getElem?_set_self q] at h; cases h
      · rw [List.getElem?_eq_none (by simpa using q)] at h; cases h
    · rw [List.getElem?_set_ne hi] at h
      obtain ⟨h1, h2⟩ := wipeE_some h
      exact ⟨h1, by simp [h2]; exact fun e => hi e.symm⟩
/-- the slots vs as they were, where they were shared; else unknown -/
def backE (ρ0 ρ : Env) : List Nat → Env
  | [] => ρ
  | v :: vs => (backE ρ0 ρ vs).set v (match ρ0[v]? with
    | some (some (.fd (.sh d))) => some (.fd (.sh d))
    | _ => none)
theorem backE_len (ρ0 ρ : Env) : ∀ vs : List Nat, (backE ρ0 ρ vs).length = ρ.length
  | [] => rfl
  | v :: vs => by unfold backE; rw [List.length_set, backE_len ρ0 ρ vs]
theorem backE_some {ρ0 ρ : Env} {i : Nat} {o : O} : ∀ {vs : List Nat}, (backE ρ0 ρ vs)[i]? = some (some o) → (i ∉ vs ∧ ρ[i]? = some (some o)) ∨ (i ∈ vs ∧ ∃ d, o = .sh d ∧ ρ0[i]? = some (some (.sh d)))
  | [], h => .inl ⟨by simp, h⟩
  | v :: vs, h => by
    unfold backE at h
    by_cases hi : v = i
    · subst hi
      rcases Nat.lt_or_ge v (backE ρ0 ρ vs).length with q | q
      · rw [List.getElem?_set_self q] at h
        right
        refine ⟨by simp, ?_⟩
        split at h
        · rename_i d e
          cases h
          exact ⟨d, rfl, e⟩
        · cases h
      · rw [List.getElem?_eq_none (by simpa using q)] at h; cases h
    · rw [List.getElem?_set_ne hi] at h
      rcases backE_some h with ⟨h1, h2⟩ | ⟨h1, h2⟩
      · exact .inl ⟨by simp [h1]; exact fun e => hi e.symm, h2⟩
      · exact .inr ⟨by simp [h1], h2⟩
section
variable {κ : Kx} {A : Fp} {F H : Hp} {ρ : Env} {σ : L2.St} {τ : List O} {υ : List V}
theorem join_some {α : Type} {l : List (Option α)} {i : Nat} {a : α} (h : (l[i]?).join = some a) : l[i]? = some (some a) := by
  cases q : l[i]? with
  | none => rw [q] at h; cases h
  | some z => rw [q] at h; simp at h; rw [h]
theorem gWipe (g : G κ A F H ρ σ τ υ) (vs : List Nat) : G κ A F H (wipeE ρ vs) (wipe σ vs) τ υ :=
  ⟨by rw [wipeE_len, wipe_length]; exact g.len, g.lent, fun x o e => by
    cases x with
    | t k => exact g.own (.t k) o e
    | s i =>
      obtain ⟨h1, h2⟩ := wipeE_some (join_some e)
      obtain ⟨v, h3, h4⟩ := g.own (.s i) o (by simp [atO, h1])
      refine ⟨v, ?_, h4⟩
      simp only [atV] at h3 ⊢
      rw [wipe_out h2]
      exact h3, g.nd, g.dj, g.ff, g.ft, g.fh⟩
theorem gUnwipe {A0 : Fp} {F0 H0 : Hp} {ρ0 : Env} {τ0 : List O} {υ0 : List V} {vs : List Nat} (g0 : G κ A0 F0 H0 ρ0 σ τ0 υ0) (e : Same F0 F) (g : G κ A F H ρ (wipe σ vs) τ υ) :
    ∃ A', G κ A' F H (backE ρ0 ρ vs) σ τ υ ∧ Fr A F H A' F H := by
  let A' : Fp := fun x => match x with
    | .s i => if i ∈ vs then [] else A (.s i)
    | .t k => A (.t k)
  have sub : ∀ x b, b ∈ A' x → b ∈ A x := fun x b hb => by
    cases x with
    | t k => exact hb
    | s i =>
      have hb : b ∈ (if i ∈ vs then [] else A (.s i)) := hb
      split at hb
      · simp at hb
      · exact hb
  refine ⟨A', ⟨by rw [backE_len, g.len, wipe_length], g.lent, fun x o eo => ?_, fun x => ?_, fun x y b n hx hy => g.dj x y b n (sub x b hx) (sub y b hy), fun x b hb => g.ff x b (sub x b hb), fun x b hb => g.ft x b (sub x b hb), g.fh⟩, Fr.sub fun x b hb => ⟨x, sub x b hb⟩⟩
  · cases x with
    | t k => exact g.own (.t k) o eo
    | s i =>
      rcases backE_some (join_some eo) with ⟨h1, h2⟩ | ⟨h1, d, rfl, h2⟩
      · obtain ⟨v, h3, h4⟩ := g.own (.s i) o (by simp [atO, h2])
        refine ⟨v, ?_, ?_⟩
        · simp only [atV] at h3 ⊢
          rw [wipe_out h1] at h3
          exact h3
        · show Own κ F H o v (if i ∈ vs then [] else A (.s i))
          rw [if_neg h1]
          exact h4
      · obtain ⟨v, h3, h4⟩ := g0.own (.s i) _ (by simp only [atO, h2]; rfl)
        refine ⟨v, h3, ?_⟩
        show Own κ F H _ v (if i ∈ vs then [] else A (.s i))
        rw [if_pos h1]
        exact .fd (.sh (h4.sh_v.mono e))
  · cases x with
    | t k => exact g.nd (.t k)
    | s i =>
      show (if i ∈ vs then [] else A (.s i)).Nodup
      split
      · exact List.nodup_nil
      · exact g.nd _
end
theorem wipe_get {σ : L2.St} {i : Nat} : ∀ {vs : List Nat}, (wipe σ vs)[i]? = if i ∈ vs ∧ i < σ.length then some none else σ[i]?
  | [] => by simp [wipe]
  | v :: vs => by
    unfold wipe
    by_cases hv : v = i
    · subst hv
      rcases Nat.lt_or_ge v σ.length with q | q
      · rw [List.getElem?_set_self (by rw [wipe_length]; exact q), if_pos ⟨by simp, q⟩]
      · rw [List.getElem?_eq_none (by rw [List.length_set, wipe_length]; exact q), if_neg (by omega), List.getElem?_eq_none q]
    · rw [List.getElem?_set_ne hv, wipe_get (vs := vs)]
      have : (i ∈ v :: vs ∧ i < σ.length) ↔ (i ∈ vs ∧ i < σ.length) := by
        simp only [List.mem_cons]
        constructor
        · rintro ⟨h | h, q⟩
          · exact absurd h.symm hv
          · exact ⟨h, q⟩
        · rintro ⟨h, q⟩
          exact ⟨.inr h, q⟩
      simp only [this]
theorem wipe_nt {σ σ2 : L2.St} {ts vs : List Nat} (h : Nt ts (wipe σ vs) σ2) (hs : ∀ i ∈ ts, i ∈ vs) : wipe σ2 vs = wipe σ vs := by
  have hl : σ2.length = σ.length := by rw [h.1, wipe_length]
  apply List.ext_getElem?
  intro i
  rw [wipe_get, wipe_get, hl]
  by_cases hi : i ∈ vs
  · by_cases hq : i < σ.length
    · rw [if_pos ⟨hi, hq⟩, if_pos ⟨hi, hq⟩]
    · rw [if_neg (by simp [hq]), if_neg (by simp [hq]), List.getElem?_eq_none (by omega), List.getElem?_eq_none (by omega)]
  · rw [if_neg (fun z => hi z.1), if_neg (fun z => hi z.1), h.2 i fun z => hi (hs i z), wipe_out hi]
/-- the turns of a comprehension -/
def lcGo (vs : List Nat) (b : Bn) (t : M Bool) (e : M D) : List D → List D → M (List D)
  | [], acc, ρ => .ok acc ρ
  | d :: ds, acc, ρ => match b d ρ with
    | none => .bad
    | some ρ1 => match t ρ1 with
      | .ok true ρ2 => (match e ρ2 with
        | .ok y ρ3 => if acc.length < lim then lcGo vs b t e ds (acc ++ [y]) (wipeE ρ3 vs) else .bad
        | _ => .bad)
      | .ok false ρ2 => lcGo vs b t e ds acc (wipeE ρ2 vs)
      | _ => .bad
def mLc (vs : List Nat) (src : M (List D)) (b : Bn) (t : M Bool) (e : M D) : M O := mBind src fun ds ρ1 => match lcGo vs b t e ds [] (wipeE ρ1 vs) with
  | .ok acc ρ2 => .ok (.lst acc) (backE ρ1 ρ2 vs)
  | _ => .bad
theorem tYes_of {κ : Kx} {W : WX'} {σ : L2.St} {H : Hp} {Q : Bool → Hp → Prop} (h : tT κ W true (mPure true) σ H Q) : tYes σ H Q := by
  obtain ⟨A, F, ρ, τ, υ, g, h⟩ := h
  exact h A F H .refl g
theorem dTs_nil {X : Cx} {κ : Kx} {W : WX'} : PTs X [] (tT κ W true (mPure true)) := ⟨fun pins s σ H Q I h => pts_nil.run pins s σ H Q I (tYes_of h)⟩
theorem dTs_one {X : Cx} {κ : Kx} {W : WX'} {c : Expr} {p : Bool} {m : M Bool} (h : PT X c (tT κ W p m)) : PTs X [c] (tT κ W p m) := pts_one h
/-- the reading of a comprehension -/
theorem tLc_of {κ : Kx} {W W' : WX'} {p pt pe : Bool} {vs ts : List Nat} {src : M (List D)} {b : Bn} {t : M Bool} {e : M D} (hs : ∀ i ∈ ts, i ∈ vs) {wi : TI} (hi : ∀ σ H R, tIt κ W p src σ H R → wi σ H R) {σ : L2.St} {H : Hp} {Q : VK}
    (h : tE κ W false (mLc vs src b t e) σ H Q) : tLc wi (tBn κ ts b) (tT κ W' pt t) (tV κ W' pe e) vs σ H Q := by
  obtain ⟨A, F, ρ, τ, υ, g, h⟩ := h
  refine hi _ _ _ ⟨A, F, ρ, τ, υ, g, h.bind.imp fun ds ρ1 h J A1 F1 H1 s1 g1 j => ?_⟩
  intro D hD
  obtain ⟨g2, f2⟩ := g1.pushNew (r := .lst []) hD rfl (.fd (.ct ⟨[], upd_same, .nil⟩))
  cases ez : lcGo vs b t e ds [] (wipeE ρ1 vs) with
  | bad => rw [ez] at h; exact h.elim
  | exc _ _ => rw [ez] at h; exact h.elim
  | ok accZ ρZ =>
  rw [ez] at h
  have h : ∀ v A' F' H', Stp false ρ A F H (backE ρ1 ρZ vs) A' F' H' → G κ A' F' H' (backE ρ1 ρZ vs) σ (τ ++ [.lst accZ]) (υ ++ [v]) → Q v H' := h
  refine ⟨fun i n H' => n = ds.length - i ∧ i ≤ ds.length ∧ ∃ A' F' ρ' acc, Fr A F H A' F' H' ∧ Same F1 F' ∧ G κ A' F' H' ρ' (wipe σ vs) (τ ++ [.lst acc]) (υ ++ [.ref D]) ∧ lcGo vs b t e (ds.drop i) acc ρ' = .ok accZ ρZ,
    ⟨ds.length, by simp, Nat.zero_le _, _, F1, wipeE ρ1 vs, [], s1.fr.trans f2, Same.refl _, gWipe g2 vs, by rw [List.drop_zero]; exact ez⟩, ?_⟩
  rintro i n H' ⟨rfl, hi, A', F', ρ', acc, f', e', g', z'⟩
  by_cases hlt : i < ds.length
  · refine .inr ⟨j.go i F' H' e' g'.fh hlt, ?_⟩
    have ed : ds[i]? = some ds[i] := List.getElem?_eq_getElem hlt
    rw [drop_cons ed] at z'
    refine ⟨fun H2 => (i + 1 ≤ ds.length ∧ ∃ A' F' ρ' acc, Fr A F H A' F' H2 ∧ Same F1 F' ∧ G κ A' F' H2 ρ' (wipe σ vs) (τ ++ [.lst acc]) (υ ++ [.ref D]) ∧ lcGo vs b t e (ds.drop (i + 1)) acc ρ' = .ok accZ ρZ),
      fun H2 ⟨hle, x⟩ => ⟨ds.length - (i + 1), by omega, rfl, hle, x⟩, fun x H2 y => ?_⟩
    obtain ⟨A2, F2, s2, g2', r2⟩ := j.yld i _ A' F' H' ρ' _ _ _ x H2 e' g' ed y
    unfold lcGo at z'
    cases eb : b ds[i] ρ' with
    | none => rw [eb] at z'; cases z'
    | some ρ3 =>
      rw [eb] at z'
      refine ⟨A2, F2, ρ', _, _, _, ρ3, g2', r2, eb, fun σ3 A3 f3 g3 n3 => ⟨wipe_nt n3 hs, A3, F2, ρ3, _, _, g3, ?_⟩⟩
      have fr3 : Fr A F H A3 F2 H2 := (f'.trans s2.fr).trans f3
      have gr3 : Same F1 F2 := e'.trans s2.fr.grow
      simp only at z'
      cases et : t ρ3 with
      | bad => rw [et] at z'; cases z'
      | exc _ _ => rw [et] at z'; cases z'
      | ok k ρ4 =>
        rw [et] at z'
        intro A4 F4 H4 s4 g4
        cases k with
        | false =>
          have g5 := gWipe g4 vs
          rw [wipe_nt n3 hs] at g5
          rw [if_neg (by decide)]
          exact ⟨hlt, A4, F4, _, acc, fr3.trans s4.fr, gr3.trans s4.fr.grow, g5, z'⟩
        | true =>
          rw [if_pos rfl]
          refine ⟨A4, F4, ρ4, _, _, g4, ?_⟩
          simp only at z'
          cases ee : e ρ4 with
          | bad => rw [ee] at z'; cases z'
          | exc _ _ => rw [ee] at z'; cases z'
          | ok y ρ5 =>
            rw [ee] at z'
            intro v A5 F5 H5 s5 g5 r5
            simp only at z'
            split at z'
            · rename_i hl
              obtain ⟨a, ws, ea, h6, r6, w6⟩ := g5.writeT (ds' := acc ++ [y])
              cases ea
              obtain ⟨g7, f7⟩ := w6 (ws ++ [v]) (r6.append (.cons r5 .nil))
              have g8 := gWipe g7 vs
              rw [wipe_nt n3 hs] at g8
              exact ⟨ws, h6, by rw [r6.length, ← lim_eq]; exact hl, hlt, A5, F5, _, _, ((fr3.trans s4.fr).trans s5.fr).trans f7, (gr3.trans s4.fr.grow).trans s5.fr.grow, g8, z'⟩
            · cases z'
  · have hi' : i = ds.length := by omega
    refine .inl ⟨j.stop i F' H' e' g'.fh (by omega), ?_⟩
    rw [hi', List.drop_length] at z'
    have z' : Out.ok acc ρ' = Out.ok accZ ρZ := z'
    cases z'
    obtain ⟨A2, g3, f3⟩ := gUnwipe g1 e' g'
    exact h _ A2 F' H' (.no (f'.trans f3)) g3
end DL

end

section
set_option Elab.async false
set_option linter.all false
set_option maxRecDepth 100000
/-! DL, part I: defs and calls. -/
namespace DL
open PySem L2 RZ PyProof.Rows

/-! ### a def -/
abbrev Sem := List O → Out O
def W0 : WX' := fun _ _ _ _ => False
def keepE (mu : List Nat) (n : Nat) (ρ : Env) : Env := (List.range n).map fun i => if i ∈ mu then (ρ[i]?).join else none
def semOf (N n : Nat) (mu : List Nat) (m : MS) : Sem := fun os => if os.length = n then match m (os.map some ++ List.replicate (N - n) none) with
  | .ret r ρ' => .ok r (keepE mu n ρ')
  | .next ρ' => .ok (.sh .non) (keepE mu n ρ')
  | _ => .bad else .bad
def spD (κ : Kx) (n : Nat) (sem : Sem) : Sp := fun vs H Q E => vs.length = n ∧ ∃ A F os, G κ A F H (os.map some) (vs.map some) [] [] ∧ match sem os with
  | .ok r fs => ∀ v A' F' H', Fr A F H A' F' H' → G κ A' F' H' fs (vs.map some) [r] [v] → Q v H'
  | _ => False
section
variable {κ : Kx} {A : Fp} {F H : Hp} {ρ : Env} {σ : L2.St} {τ : List O} {υ : List V}
theorem atO_get {i : Nat} {o : O} (h : atO ρ τ (.s i) = some o) : ρ[i]? = some (some o) := join_some h
theorem gPad (g : G κ A F H ρ σ τ υ) (k : Nat) : G κ A F H (ρ ++ List.replicate k none) (σ ++ List.replicate k none) τ υ :=
  ⟨by simp [g.len], g.lent, fun x o e => by
    cases x with
    | t k => exact g.own (.t k) o e
    | s i =>
      have e1 := atO_get e
      have hi : i < ρ.length := by
        rcases Nat.lt_or_ge i ρ.length with q | q
        · exact q
        · rw [List.getElem?_append_right q, List.getElem?_replicate] at e1
          split at e1 <;> cases e1
      rw [List.getElem?_append_left hi] at e1
      obtain ⟨v, h1, h2⟩ := g.own (.s i) o (by simp [atO, e1])
      refine ⟨v, ?_, h2⟩
      simp only [atV] at h1 ⊢
      rw [List.getElem?_append_left (by rw [← g.len]; exact hi)]
      exact h1, g.nd, g.dj, g.ff, g.ft, g.fh⟩
theorem gCut {n : Nat} {mu : List Nat} {σc : L2.St} (g : G κ A F H ρ σ τ υ) (hn : σc.length = n) (hm : ∀ i ∈ mu, i < n → σ[i]? = σc[i]?) : G κ A F H (keepE mu n ρ) σc τ υ :=
  ⟨by simp [keepE, hn], g.lent, fun x o e => by
    cases x with
    | t k => exact g.own (.t k) o e
    | s i =>
      have e1 := atO_get e
      simp only [keepE, List.getElem?_map] at e1
      rcases Nat.lt_or_ge i n with q | q
      · rw [List.getElem?_range q] at e1
        simp only [Option.map_some, Option.some.injEq] at e1
        split at e1
        · rename_i hi
          obtain ⟨v, h1, h2⟩ := g.own (.s i) o e1
          refine ⟨v, ?_, h2⟩
          simp only [atV] at h1 ⊢
          rw [← hm i hi q]
          exact h1
        · cases e1
      · rw [List.getElem?_eq_none (by simpa using q)] at e1
        exact absurd e1 nofun, g.nd, g.dj, g.ff, g.ft, g.fh⟩
end
theorem fn_D {P : Program} {w : World} {K : PySem.W.Frag} {mg : Str → Option Value} {base : Heap} {x qual : Str} {st : Stmt} {f : Addr} {fd : FuncData} {N ps : List Str} {k : Nat} {mu : List Nat} {m : MS} (Fu : Fun K x qual st f fd) (S : FnScope N ps (defScope st)) (hps : ps.length ≤ N.length)
    (hb : ∀ (cdv : Value) (A : Around) (outer : List PySem.Env) (s : Shared) (H : Hp) (E : XK), Room k (A.deeper (envOfC qual (defScope st) s.heap.objs.size f cdv)) → PSs (cxOf CX0 P w K mg base N qual (defScope st) f cdv A outer s H E).nox (defBody st) (tS ⟨K, mg⟩ W0 mu m)) :
    FnOk P w K mg base CX0 (k + 1) f fd ps (spD ⟨K, mg⟩ ps.length (semOf N.length ps.length mu m)) := by
  refine Fu.ok S (fun vs H Q E h => h.1) fun cdv A outer s H vs Q E hr h => ⟨_, hb cdv A outer s H E hr, ?_⟩
  obtain ⟨hl, Af, F, os, g, h⟩ := h
  have ho : os.length = ps.length := by have := g.len; simp at this; omega
  have hv : (vs.map some).length = ps.length := by simp [hl]
  refine ⟨Af, F, os.map some ++ List.replicate (N.length - ps.length) none, ?_, ?_⟩
  · unfold L2.start
    rw [hl]
    exact gPad g _
  · simp only [semOf, if_pos ho] at h
    have hm : ∀ {σ' : L2.St}, (∀ i ∈ mu, σ'[i]? = (L2.start N vs)[i]?) → ∀ i ∈ mu, i < ps.length → σ'[i]? = (vs.map some)[i]? := fun q i hi hn => by
      rw [q i hi]
      unfold L2.start
      rw [List.getElem?_append_left (by rw [hv]; exact hn)]
    cases e : m (os.map some ++ List.replicate (N.length - ps.length) none) with
    | bad => rw [e] at h; exact h
    | brk _ => rw [e] at h; exact h.elim
    | cont _ => rw [e] at h; exact h.elim
    | exc _ _ => rw [e] at h; exact h.elim
    | next ρ' =>
      rw [e] at h
      intro σ' A' F' H' f' g' m'
      obtain ⟨g2, f2⟩ := (gCut g' hv (hm m')).pushSh .non
      exact h .non _ F' H' (f'.trans f2) g2
    | ret r ρ' =>
      rw [e] at h
      intro v σ' A' F' H' f' g' m'
      exact h v A' F' H' f' (gCut g' hv (hm m'))

/-! ### arguments -/
inductive Args (σ : L2.St) : List (Option Nat) → List V → List V → Prop
  | nil : Args σ [] [] []
  | slot {i : Nat} {v : V} {as : List (Option Nat)} {us vs : List V} : σ[i]? = some (some v) → Args σ as us vs → Args σ (some i :: as) us (v :: vs)
  | push {v : V} {as : List (Option Nat)} {us vs : List V} : Args σ as us vs → Args σ (none :: as) (v :: us) (v :: vs)
theorem Args.length {σ : L2.St} {as : List (Option Nat)} {us vs : List V} (h : Args σ as us vs) : vs.length = as.length := by
  induction h with
  | nil => rfl
  | slot _ _ ih => simp [ih]
  | push _ ih => simp [ih]
def tAs (κ : Kx) (W : WX') (as : List (Option Nat)) (m : M (List O)) : TA := fun σ H Q => ∃ A F ρ τ υ, G κ A F H ρ σ τ υ ∧ Wp κ W A F H σ τ υ (m ρ) fun rs ρ' => ∀ vs us A' F' H', Fr A F H A' F' H' → G κ A' F' H' ρ' σ (τ ++ rs) (υ ++ us) → us.length = rs.length → Args σ as us vs → Q vs H'
/-- a slot that is handed on by reference -/
def mHas (i : Nat) (ms : M (List O)) : M (List O) := fun ρ => match ρ[i]? with
  | some (some _) => ms ρ
  | _ => .bad
section
variable {X : Cx} {κ : Kx} {W : WX'} {e : Expr} {es : List Expr} {p : Bool} {as : List (Option Nat)}
theorem dA_nil : PA X [] (tAs κ W [] (mPure [])) := pa_imp pa_nil fun σ H Q ⟨A, F, ρ, τ, υ, g, h⟩ => h [] [] A F H .refl (by simpa using g) rfl .nil
theorem dA_push {m : M O} {ms : M (List O)} (h1 : PE X e (tE κ W p m)) (h2 : PA X es (tAs κ W as ms)) (hs : starEach (e :: es) X.env = (false, eval e X.env) :: starEach es X.env := by rfl) : PA X (e :: es) (tAs κ W (none :: as) (mConsO m ms)) :=
  pa_imp (pa_cons h1 h2 hs) fun σ H Q ⟨A, F, ρ, τ, υ, g, h⟩ =>
    ⟨A, F, ρ, τ, υ, g, h.bind.imp fun r ρ1 h v A1 F1 H1 s1 g1 => ⟨A1, F1, ρ1, τ ++ [r], υ ++ [v], g1, ((h.step s1.fr).bind.pop).imp fun rs ρ2 h vs us A2 F2 H2 s2 g2 l2 ar => h (v :: vs) (v :: us) A2 F2 H2 (s1.fr.trans s2) (by simpa using g2) (by simp [l2]) (.push ar)⟩⟩
theorem dA_slot {x : Str} {pos : Pos} {i : Nat} {ms : M (List O)} (h1 : PE X (.Name x pos) (tVar i)) (h2 : PA X es (tAs κ W as ms)) (hs : starEach (.Name x pos :: es) X.env = (false, eval (.Name x pos) X.env) :: starEach es X.env := by rfl) : PA X (.Name x pos :: es) (tAs κ W (some i :: as) (mHas i ms)) :=
  pa_imp (pa_cons h1 h2 hs) fun σ H Q ⟨A, F, ρ, τ, υ, g, h⟩ => by
    unfold mHas at h
    split at h
    · rename_i o e
      obtain ⟨v, h1, _⟩ := g.slot e
      exact ⟨v, h1, A, F, ρ, τ, υ, g, h.imp fun rs ρ2 h vs us A2 F2 H2 s2 g2 l2 ar => h (v :: vs) us A2 F2 H2 s2 g2 l2 (.slot h1 ar)⟩
    · exact h.elim
end
def fill : List (Option Nat) → List O → Env → Option (List O)
  | [], [], _ => some []
  | some i :: as, rs, ρ => match ρ[i]? with
    | some (some o) => match fill as rs ρ with
      | some os => some (o :: os)
      | none => none
    | _ => none
  | none :: as, r :: rs, ρ => match fill as rs ρ with
    | some os => some (r :: os)
    | none => none
  | _, _, _ => none
def slotSh (ρ : Env) (i : Nat) : Bool := match ρ[i]? with
  | some (some (.fd (.sh _))) => true
  | _ => false
def putBack (ρ0 : Env) : List (Option Nat) → Env → Env → Env
  | [], _, ρ => ρ
  | some i :: as, fs, ρ => putBack ρ0 as fs.tail (if slotSh ρ0 i = true then ρ else ρ.set i fs.head?.join)
  | none :: as, fs, ρ => putBack ρ0 as fs.tail ρ
def mCallF (sem : Sem) (as : List (Option Nat)) (ms : M (List O)) : M O := mBind ms fun rs ρ => match fill as rs ρ with
  | some os => match sem os with
    | .ok r fs => .ok r (putBack ρ as fs ρ)
    | _ => .bad
  | none => .bad
/-- where the j-th argument lies at the caller's -/
def srcIx : Nat → List (Option Nat) → Nat → Option Ix
  | _, [], _ => none
  | _, some i :: _, 0 => some (.s i)
  | k, none :: _, 0 => some (.t k)
  | k, some _ :: as, j + 1 => srcIx k as j
  | k, none :: as, j + 1 => srcIx (k + 1) as j
theorem srcIx_t : ∀ {as : List (Option Nat)} {k j k' : Nat}, srcIx k as j = some (.t k') → k ≤ k'
  | [], _, _, _, h => by simp [srcIx] at h
  | some i :: as, k, 0, k', h => by simp [srcIx] at h
  | none :: as, k, 0, k', h => by simp [srcIx] at h; omega
  | some i :: as, k, j + 1, k', h => srcIx_t (as := as) (by simpa [srcIx] using h)
  | none :: as, k, j + 1, k', h => by have := srcIx_t (as := as) (k := k + 1) (by simpa [srcIx] using h); omega
theorem srcIx_s : ∀ {as : List (Option Nat)} {k j i : Nat}, srcIx k as j = some (.s i) ↔ as[j]? = some (some i)
  | [], _, _, _ => by simp [srcIx]
  | some i' :: as, k, 0, i => by simp [srcIx]
  | none :: as, k, 0, i => by simp [srcIx]
  | some i' :: as, k, j + 1, i => by simpa [srcIx] using srcIx_s (as := as)
  | none :: as, k, j + 1, i => by simpa [srcIx] using srcIx_s (as := as) (k := k + 1)
theorem srcIx_inj : ∀ {as : List (Option Nat)} {k j j' : Nat} {y : Ix}, (as.filterMap id).Nodup → srcIx k as j = some y → srcIx k as j' = some y → j = j'
  | [], _, _, _, _, _, h, _ => by simp [srcIx] at h
  | a :: as, k, 0, 0, y, _, _, _ => rfl
  | some i :: as, k, 0, j' + 1, y, n, h, h' => by
    simp [srcIx] at h h'
    subst h
    have h2 := srcIx_s.mp h'
    have : i ∈ as.filterMap id := List.mem_filterMap.mpr ⟨some i, List.mem_iff_getElem?.mpr ⟨j', h2⟩, rfl⟩
    simp at n
    exact absurd (by simpa using this) n.1
  | some i :: as, k, j + 1, 0, y, n, h, h' => by
    simp [srcIx] at h h'
    subst h'
    have h2 := srcIx_s.mp h
    have : i ∈ as.filterMap id := List.mem_filterMap.mpr ⟨some i, List.mem_iff_getElem?.mpr ⟨j, h2⟩, rfl⟩
    simp at n
    exact absurd (by simpa using this) n.1
  | none :: as, k, 0, j' + 1, y, n, h, h' => by
    simp [srcIx] at h h'
    subst h
    have := srcIx_t h'
    omega
  | none :: as, k, j + 1, 0, y, n, h, h' => by
    simp [srcIx] at h h'
    subst h'
    have := srcIx_t h
    omega
  | some i :: as, k, j + 1, j' + 1, y, n, h, h' => by
    have n' : (as.filterMap id).Nodup := by simp at n ⊢; exact n.2
    have := srcIx_inj (as := as) (k := k) n' (by simpa [srcIx] using h) (by simpa [srcIx] using h')
    omega
  | none :: as, k, j + 1, j' + 1, y, n, h, h' => by
    have n' : (as.filterMap id).Nodup := by simp at n ⊢; exact n
    have := srcIx_inj (as := as) (k := k + 1) n' (by simpa [srcIx] using h) (by simpa [srcIx] using h')
    omega
theorem srcIx_O : ∀ {as : List (Option Nat)} {rs : List O} {ρ : Env} {τ : List O} {os : List O} {j : Nat} {o : O}, fill as rs ρ = some os → os[j]? = some o → ∃ y, srcIx τ.length as j = some y ∧ atO ρ (τ ++ rs) y = some o
  | [], [], ρ, τ, os, j, o, h, h' => by simp [fill] at h; subst h; simp at h'
  | [], _ :: _, ρ, τ, os, j, o, h, h' => by simp [fill] at h
  | some i :: as, rs, ρ, τ, os, j, o, h, h' => by
    unfold fill at h
    split at h
    · rename_i o1 e1
      split at h
      · rename_i os1 e2
        cases h
        cases j with
        | zero =>
          simp at h'
          subst h'
          exact ⟨.s i, rfl, by simp [atO, e1]⟩
        | succ j =>
          obtain ⟨y, h1, h2⟩ := srcIx_O (τ := τ) e2 (by simpa using h')
          exact ⟨y, by simpa [srcIx] using h1, h2⟩
      · cases h
    · cases h
  | none :: as, [], ρ, τ, os, j, o, h, h' => by simp [fill] at h
  | none :: as, r :: rs, ρ, τ, os, j, o, h, h' => by
    unfold fill at h
    split at h
    · rename_i os1 e2
      cases h
      cases j with
      | zero =>
        simp at h'
        subst h'
        exact ⟨.t τ.length, rfl, by simp [atO]⟩
      | succ j =>
        obtain ⟨y, h1, h2⟩ := srcIx_O (τ := τ ++ [r]) e2 (by simpa using h')
        exact ⟨y, by simpa [srcIx] using h1, by simpa using h2⟩
    · cases h
theorem srcIx_V {σ : L2.St} : ∀ {as : List (Option Nat)} {us vs : List V} {υ : List V} {j : Nat} {y : Ix}, Args σ as us vs → srcIx υ.length as j = some y → atV σ (υ ++ us) y = vs[j]?
  | _, _, _, υ, j, y, .nil, h => by simp [srcIx] at h
  | some i :: as, us, v :: vs, υ, 0, y, .slot e r, h => by
    simp [srcIx] at h
    subst h
    simp [atV, e]
  | some i :: as, us, v :: vs, υ, j + 1, y, .slot e r, h => by
    simpa using srcIx_V r (by simpa [srcIx] using h)
  | none :: as, u :: us, _ :: vs, υ, 0, y, .push r, h => by
    simp [srcIx] at h
    subst h
    simp [atV]
  | none :: as, u :: us, _ :: vs, υ, j + 1, y, .push r, h => by
    simpa using srcIx_V (υ := υ ++ [u]) r (by simpa [srcIx] using h)
theorem putBack_len {ρ0 : Env} : ∀ {as : List (Option Nat)} {fs ρ : Env}, (putBack ρ0 as fs ρ).length = ρ.length
  | [], _, _ => rfl
  | some i :: as, fs, ρ => by unfold putBack; rw [putBack_len]; split <;> simp
  | none :: as, fs, ρ => by unfold putBack; rw [putBack_len]
theorem putBack_get {ρ0 : Env} {i : Nat} {o : O} : ∀ {as : List (Option Nat)} {fs ρ : Env}, (putBack ρ0 as fs ρ)[i]? = some (some o) →
    (∃ j : Nat, as[j]? = some (some i) ∧ fs[j]? = some (some o) ∧ slotSh ρ0 i = false) ∨ (ρ[i]? = some (some o) ∧ (some i ∉ as ∨ slotSh ρ0 i = true))
  | [], _, _, h => .inr ⟨h, .inl (by simp)⟩
  | none :: as, fs, ρ, h => by
    unfold putBack at h
    rcases putBack_get h with ⟨j, h1, h2, h3⟩ | ⟨h1, h2⟩
    · exact .inl ⟨j + 1, by simpa using h1, by cases fs <;> simp_all, h3⟩
    · exact .inr ⟨h1, by simpa using h2⟩
  | some i' :: as, fs, ρ, h => by
    unfold putBack at h
    rcases putBack_get h with ⟨j, h1, h2, h3⟩ | ⟨h1, h2⟩
    · exact .inl ⟨j + 1, by simpa using h1, by cases fs <;> simp_all, h3⟩
    · by_cases hi : i' = i
      · subst hi
        cases q : slotSh ρ0 i' with
        | true =>
          rw [if_pos q] at h1
          exact .inr ⟨h1, .inr rfl⟩
        | false =>
          rw [if_neg (by simp [q])] at h1
          left
          refine ⟨0, rfl, ?_, rfl⟩
          rcases Nat.lt_or_ge i' ρ.length with z | z
          · rw [List.getElem?_set_self z] at h1
            cases fs with
            | nil => simp at h1
            | cons f fs => simp at h1; simp [h1]
          · rw [List.getElem?_eq_none (by simpa using z)] at h1; cases h1
      · have h1' : ρ[i]? = some (some o) := by
          split at h1
          · exact h1
          · rw [List.getElem?_set_ne hi] at h1; exact h1
        refine .inr ⟨h1', h2.elim (fun z => .inl ?_) .inr⟩
        simp [z]
        exact fun z => hi z.symm
def posOf : List (Option Nat) → Nat → Option Nat
  | [], _ => none
  | a :: as, i => if a = some i then some 0 else (posOf as i).map (· + 1)
theorem posOf_get : ∀ {as : List (Option Nat)} {i j : Nat}, posOf as i = some j → as[j]? = some (some i)
  | [], _, _, h => by simp [posOf] at h
  | a :: as, i, j, h => by
    unfold posOf at h
    split at h
    · rename_i e; cases h; simp [e]
    · cases q : posOf as i with
      | none => rw [q] at h; cases h
      | some j' =>
        rw [q] at h
        cases h
        simpa using posOf_get q
theorem posOf_none : ∀ {as : List (Option Nat)} {i : Nat}, posOf as i = none → some i ∉ as
  | [], _, _ => by simp
  | a :: as, i, h => by
    unfold posOf at h
    split at h
    · cases h
    · rename_i e
      cases q : posOf as i with
      | none =>
        have := posOf_none q
        simp [this]
        exact fun z => e z.symm
      | some j' => rw [q] at h; cases h
/-- a call's end: what the callee owned comes back -/
theorem gMerge {κ : Kx} {A A2 Ac A' : Fp} {F F2 H H2 : Hp} {ρ ρ2 ρ' : Env} {σ σ2 : L2.St} {τ τ2 τ' : List O} {υ υ2 υ' : List V} (g : G κ A F H ρ σ τ υ) (g2 : G κ A2 F2 H2 ρ2 σ2 τ2 υ2) (f : Ix → Option Ix) (d : Ix → Option Ix)
    (hc : ∀ y, Ac y = match f y with | some x => A x | none => []) (fr : Fr Ac F H A2 F2 H2)
    (hA : ∀ x z, d x = some z → A' x = A2 z) (hU : ∀ x, d x = none → ∀ b ∈ A' x, b ∈ A x ∧ ∀ y, f y ≠ some x) (hN : ∀ x, (A' x).Nodup) (hd : ∀ x x' z, d x = some z → d x' = some z → x = x')
    (len : ρ'.length = σ.length) (lent : τ'.length = υ'.length)
    (own : ∀ x o, atO ρ' τ' x = some o → (∃ z, d x = some z ∧ atO ρ2 τ2 z = some o ∧ atV σ υ' x = atV σ2 υ2 z) ∨ (d x = none ∧ A' x = A x ∧ ∃ z, atO ρ τ z = some o ∧ atV σ υ' x = atV σ υ z ∧ A z = A x)) :
    G κ A' F2 H2 ρ' σ τ' υ' ∧ Fr A F H A' F2 H2 := by
  have cA : ∀ y b, b ∈ Ac y → ∃ x, f y = some x ∧ b ∈ A x := fun y b hb => by
    rw [hc] at hb
    cases e : f y with
    | none => rw [e] at hb; simp at hb
    | some x => rw [e] at hb; exact ⟨x, rfl, hb⟩
  have nU : ∀ x, d x = none → ∀ b ∈ A' x, ∀ y, b ∉ Ac y := fun x hx b hb y hy => by
    obtain ⟨z, h1, h2⟩ := cA y b hy
    obtain ⟨h3, h4⟩ := hU x hx b hb
    refine g.dj z x b (fun e => ?_) h2 h3
    subst e
    exact h4 y h1
  have nZ : ∀ x z, d x = none → ∀ b ∈ A' x, b ∉ A2 z := fun x z hx b hb hz => by
    rcases fr.new z b hz with ⟨y, hy⟩ | e
    · exact nU x hx b hb y hy
    · exact g.notin e x (hU x hx b hb).1
  refine ⟨⟨len, lent, fun x o e => ?_, hN, fun x y b n hx hy => ?_, fun x b hb => ?_, fun x b hb => ?_, g2.fh⟩, ⟨fun b o e n => ?_, fr.there, fun x b hb => ?_, fr.grow, fun b e => ?_⟩⟩
  · rcases own x o e with ⟨z, h1, h2, h3⟩ | ⟨h1, h2, z, h3, h4, h5⟩
    · obtain ⟨v, h5, h6⟩ := g2.own z o h2
      exact ⟨v, h3.trans h5, by rw [hA x z h1]; exact h6⟩
    · obtain ⟨v, h6, h7⟩ := g.own z o h3
      refine ⟨v, h4.trans h6, ?_⟩
      rw [h2, ← h5]
      exact h7.mono fr.grow fun b hb u q => fr.keep b u q fun y => nU x h1 b (by rw [h2, ← h5]; exact hb) y
  · cases ex : d x with
    | some z =>
      rw [hA x z ex] at hx
      cases ey : d y with
      | some z' =>
        rw [hA y z' ey] at hy
        exact g2.dj z z' b (fun e => n (hd x y z ex (by rw [ey, e]))) hx hy
      | none => exact nZ y z ey b hy hx
    | none =>
      cases ey : d y with
      | some z' =>
        rw [hA y z' ey] at hy
        exact nZ x z' ex b hx hy
      | none => exact g.dj x y b n (hU x ex b hx).1 (hU y ey b hy).1
  · cases ex : d x with
    | some z => rw [hA x z ex] at hb; exact g2.ff z b hb
    | none =>
      cases q : F2 b with
      | none => rfl
      | some u =>
        obtain ⟨h1, h2⟩ := hU x ex b hb
        rcases fr.fnew b (by rw [q]; simp) with e | e | ⟨y, hy⟩
        · exact absurd (g.ff x b h1) e
        · exact absurd h1 (g.notin e x)
        · exact absurd hy (nU x ex b hb y)
  · cases ex : d x with
    | some z => rw [hA x z ex] at hb; exact g2.ft z b hb
    | none =>
      obtain ⟨o, h1, h2⟩ := g.ft x b (hU x ex b hb).1
      exact ⟨o, fr.keep b o h1 fun y => nU x ex b hb y, h2⟩
  · exact fr.keep b o e fun y hy => let ⟨x, _, h2⟩ := cA y b hy; n x h2
  · cases ex : d x with
    | some z =>
      rw [hA x z ex] at hb
      rcases fr.new z b hb with ⟨y, hy⟩ | e
      · obtain ⟨x', _, h2⟩ := cA y b hy
        exact .inl ⟨x', h2⟩
      · exact .inr e
    | none => exact .inl ⟨x, (hU x ex b hb).1⟩
  · rcases fr.fnew b e with e | e | ⟨y, hy⟩
    · exact .inl e
    · exact .inr (.inl e)
    · obtain ⟨x', _, h2⟩ := cA y b hy
      exact .inr (.inr ⟨x', h2⟩)
theorem fill_len : ∀ {as : List (Option Nat)} {rs os : List O} {ρ : Env}, fill as rs ρ = some os → os.length = as.length
  | [], [], _, _, h => by simp [fill] at h; subst h; rfl
  | [], _ :: _, _, _, h => by simp [fill] at h
  | some i :: as, rs, os, ρ, h => by
    unfold fill at h
    split at h
    · split at h
      · rename_i e; cases h; simp [fill_len e]
      · cases h
    · cases h
  | none :: as, [], os, ρ, h => by simp [fill] at h
  | none :: as, r :: rs, os, ρ, h => by
    unfold fill at h
    split at h
    · rename_i e; cases h; simp [fill_len e]
    · cases h
/-- f(..): a def of the module -/
theorem de_call {X : Cx} {κ : Kx} {W : WX'} {e : Expr} {es : List Expr} {n : Nat} {sem : Sem} {E : XK} {as : List (Option Nat)} {ms : M (List O)} (h : ∀ t, PA X es t → PE X e (tCall (spD κ n sem) [] E t)) (ha : PA X es (tAs κ W as ms))
    (hn : as.length = n := by rfl) (nd : (as.filterMap id).Nodup := by decide) : PE X e (tE κ W false (mCallF sem as ms)) :=
  pe_imp (h _ ha) fun σ H Q ⟨A, F, ρ, τ, υ, g, h⟩ => ⟨A, F, ρ, τ, υ, g, h.bind.imp fun rs ρ1 h vs us A1 F1 H1 f1 g1 l1 ar => by
    have hlu : τ.length = υ.length := g.lent
    cases ef : fill as rs ρ1 with
    | none => rw [ef] at h; exact h.elim
    | some os =>
    rw [ef] at h
    cases es : sem os with
    | bad => simp only [es] at h; exact h.elim
    | exc _ _ => simp only [es] at h; exact h.elim
    | ok r fs =>
    simp only [es] at h
    have h : ∀ v A' F' H', Stp false ρ A F H (putBack ρ1 as fs ρ1) A' F' H' → G κ A' F' H' (putBack ρ1 as fs ρ1) σ (τ ++ [r]) (υ ++ [v]) → Q v H' := h
    show spD κ n sem (vs ++ []) H1 Q E
    rw [List.append_nil]
    let f : Ix → Option Ix := fun x => match x with
      | .s j => srcIx τ.length as j
      | .t _ => none
    let Ac : Fp := fun y => match f y with
      | some x => A1 x
      | none => []
    have hc : ∀ y, Ac y = match f y with | some x => A1 x | none => [] := fun _ => rfl
    have lo : os.length = as.length := fill_len ef
    have gc := g1.re (A' := Ac) (ρ' := os.map some) (σ' := vs.map some) (τ' := []) (υ' := []) f (by simp [lo, ar.length]) rfl hc (fun x x' y e e' => by
        cases x with
        | t _ => cases e
        | s j =>
          cases x' with
          | t _ => cases e'
          | s j' => rw [srcIx_inj nd e e']) (fun x o e => by
        cases x with
        | t k => simp [atO] at e
        | s j =>
          have e1 := atO_get e
          rw [List.getElem?_map] at e1
          have e2 : os[j]? = some o := by
            cases q : os[j]? with
            | none => rw [q] at e1; cases e1
            | some z => rw [q] at e1; cases e1; rfl
          obtain ⟨y, h1, h2⟩ := srcIx_O (τ := τ) ef e2
          refine ⟨y, h1, h2, ?_⟩
          rw [hlu] at h1
          rw [srcIx_V ar h1]
          simp only [atV, List.getElem?_map]
          cases vs[j]? <;> rfl)
    refine ⟨by rw [ar.length]; exact hn, Ac, F1, os, gc.1, ?_⟩
    rw [es]
    intro v A2 F2 H2 f2 g2
    let d : Ix → Option Ix := fun x => match x with
      | .t k => if k = τ.length then some (.t 0) else none
      | .s i => match posOf as i with
        | some j => if slotSh ρ1 i = true then none else some (.s j)
        | none => none
    let B' : Fp := fun x => match x with
      | .t k => if k < τ.length then A1 (.t k) else []
      | .s i => A1 (.s i)
    let A' : Fp := fun x => match d x with
      | some z => A2 z
      | none => B' x
    have shN : ∀ i, slotSh ρ1 i = true → A1 (.s i) = [] := fun i q => by
      unfold slotSh at q
      split at q
      · rename_i dd eq
        obtain ⟨w, h1, h2⟩ := g1.slot eq
        exact h2.sh_nil
      · cases q
    have dN : ∀ i, d (.s i) = none → slotSh ρ1 i = true ∨ some i ∉ as := fun i q => by
      have q : (match posOf as i with
        | some j => if slotSh ρ1 i = true then none else some (Ix.s j)
        | none => none) = none := q
      cases ep : posOf as i with
      | none => exact .inr (posOf_none ep)
      | some j =>
        rw [ep] at q
        simp only at q
        split at q
        · exact .inl (by assumption)
        · cases q
    have A'n : ∀ x, d x = none → A' x = B' x := fun x q => by
      show (match d x with
        | some z => A2 z
        | none => B' x) = _
      rw [q]
    have A's : ∀ x z, d x = some z → A' x = A2 z := fun x z q => by
      show (match d x with
        | some z => A2 z
        | none => B' x) = _
      rw [q]
    have hU : ∀ x, d x = none → ∀ b ∈ A' x, b ∈ A1 x ∧ ∀ y, f y ≠ some x := fun x q b hb => by
      rw [A'n x q] at hb
      cases x with
      | t k =>
        have hb : b ∈ (if k < τ.length then A1 (.t k) else []) := hb
        split at hb
        · rename_i hk
          refine ⟨hb, fun y e => ?_⟩
          cases y with
          | t _ => cases e
          | s j =>
            have := srcIx_t (show srcIx τ.length as j = some (.t k) from e)
            omega
        · simp at hb
      | s i =>
        refine ⟨hb, fun y e => ?_⟩
        rcases dN i q with z | z
        · have hb : b ∈ A1 (.s i) := hb
          rw [shN i z] at hb; simp at hb
        · cases y with
          | t _ => cases e
          | s j =>
            have := srcIx_s.mp (show srcIx τ.length as j = some (.s i) from e)
            exact z (List.mem_iff_getElem?.mpr ⟨j, this⟩)
    have m := gMerge (ρ' := putBack ρ1 as fs ρ1) (τ' := τ ++ [r]) (υ' := υ ++ [v]) (A' := A') g1 g2 f d hc f2 A's hU (fun x => by
        cases q : d x with
        | some z => rw [A's x z q]; exact g2.nd z
        | none =>
          rw [A'n x q]
          cases x with
          | t k =>
            show (if k < τ.length then A1 (.t k) else []).Nodup
            split
            · exact g1.nd _
            · exact List.nodup_nil
          | s i => exact g1.nd _) (fun x x' z e e' => by
        cases x with
        | t k =>
          have e : (if k = τ.length then some (Ix.t 0) else none) = some z := e
          split at e
          · rename_i hk
            cases e
            cases x' with
            | t k' =>
              have e' : (if k' = τ.length then some (Ix.t 0) else none) = some (Ix.t 0) := e'
              split at e'
              · rename_i hk'; rw [hk, hk']
              · cases e'
            | s i' =>
              have e' : (match posOf as i' with
                | some j => if slotSh ρ1 i' = true then none else some (Ix.s j)
                | none => none) = some (Ix.t 0) := e'
              split at e'
              · split at e' <;> cases e'
              · cases e'
          · cases e
        | s i =>
          have e : (match posOf as i with
            | some j => if slotSh ρ1 i = true then none else some (Ix.s j)
            | none => none) = some z := e
          split at e
          · rename_i j ej
            split at e
            · cases e
            · cases e
              cases x' with
              | t k' =>
                have e' : (if k' = τ.length then some (Ix.t 0) else none) = some (Ix.s j) := e'
                split at e' <;> cases e'
              | s i' =>
                have e' : (match posOf as i' with
                  | some j => if slotSh ρ1 i' = true then none else some (Ix.s j)
                  | none => none) = some (Ix.s j) := e'
                split at e'
                · rename_i j' ej'
                  split at e'
                  · cases e'
                  · cases e'
                    have h1 := posOf_get ej
                    have h2 := posOf_get ej'
                    rw [h1] at h2
                    cases h2
                    rfl
                · cases e'
          · cases e) (by rw [putBack_len]; exact g1.len) (by simp [hlu]) (fun x o e => by
        cases x with
        | t k =>
          by_cases hk : k = τ.length
          · subst hk
            rw [atO_top] at e
            cases e
            refine .inl ⟨.t 0, if_pos rfl, rfl, ?_⟩
            rw [hlu, atV_top]
            rfl
          · rw [atO_app (fun z => hk (by cases z; rfl))] at e
            have hl : k < τ.length := by
              rcases Nat.lt_or_ge k τ.length with q | q
              · exact q
              · simp [atO, List.getElem?_eq_none q] at e
            have dn : d (.t k) = none := if_neg hk
            refine .inr ⟨dn, (A'n (.t k) dn).trans (if_pos hl), .t k, ?_, ?_, rfl⟩
            · simp only [atO] at e ⊢
              rw [List.getElem?_append_left hl]
              exact e
            · simp only [atV]
              rw [List.getElem?_append_left (by omega), List.getElem?_append_left (by omega)]
        | s i =>
          rcases putBack_get (atO_get e) with ⟨j, h1, h2, h3⟩ | ⟨h1, h2⟩
          · cases ep : posOf as i with
            | none => exact absurd (List.mem_iff_getElem?.mpr ⟨j, h1⟩) (posOf_none ep)
            | some j' =>
              have hj : j' = j := srcIx_inj (k := 0) nd (srcIx_s.mpr (posOf_get ep)) (srcIx_s.mpr h1)
              subst hj
              have ds : d (.s i) = some (.s j') := by
                show (match posOf as i with
                  | some j => if slotSh ρ1 i = true then none else some (Ix.s j)
                  | none => none) = _
                rw [ep]
                simp [h3]
              refine .inl ⟨.s j', ds, by simp [atO, h2], ?_⟩
              have := srcIx_V (υ := υ) ar (srcIx_s.mpr h1)
              simp only [atV] at this ⊢
              rw [this, List.getElem?_map]
              cases vs[j']? <;> rfl
          · have dn : d (.s i) = none := by
              show (match posOf as i with
                | some j => if slotSh ρ1 i = true then none else some (Ix.s j)
                | none => none) = _
              cases ep : posOf as i with
              | none => rfl
              | some j' =>
                rcases h2 with z | z
                · exact absurd (List.mem_iff_getElem?.mpr ⟨j', posOf_get ep⟩) z
                · simp [z]
            exact .inr ⟨dn, A'n (.s i) dn, .s i, by simp [atO, h1], rfl, rfl⟩)
    exact h v A' F2 H2 (.no (f1.trans m.2)) m.1⟩
end DL

end

section
set_option Elab.async false
set_option linter.all false
set_option maxRecDepth 100000
/-! DL, part J: changes in place, dict displays, late reads, in, isinstance. -/
namespace DL
open PySem L2 RZ

section
variable {κ : Kx} {A : Fp} {F H : Hp} {ρ : Env} {σ : L2.St} {τ : List O} {υ : List V}
/-- a new object that nobody tracks -/
theorem gJunk (g : G κ A F H ρ σ τ υ) {p : Addr} (o : HO) (h : H p = none) : G κ A F (upd H p o) ρ σ τ υ ∧ Fr A F H A F (upd H p o) := by
  have eH : Same H (upd H p o) := same_new h
  refine ⟨⟨g.len, g.lent, fun x u e => ?_, g.nd, g.dj, g.ff, fun x b hb => ?_, fun b u e => eH b u (g.fh b u e)⟩, ⟨fun b u e _ => eH b u e, fun b e => ?_, fun x _ hb => .inl ⟨x, hb⟩, Same.refl _, fun b e => .inl e⟩⟩
  · obtain ⟨v, h1, h2⟩ := g.own x u e
    exact ⟨v, h1, h2.mono (Same.refl _) fun b _ o e => eH b o e⟩
  · obtain ⟨u, e, n⟩ := g.ft x b hb
    exact ⟨u, eH b u e, n⟩
  · cases q : H b with
    | none => exact absurd q e
    | some u => rw [eH b u q]; simp
theorem sJunk (g : G κ A F H ρ σ τ υ) {p : Addr} (o : HO) (h : H p = none) {pp : Bool} : G κ A F (upd H p o) ρ σ τ υ ∧ Stp pp ρ A F H ρ A F (upd H p o) :=
  ⟨(gJunk g o h).1, Stp.refl.then (gJunk g o h).2 (same_new h) fun _ => rfl⟩
end

/-! ### a slot's list -/
def sApp (i : Nat) (m : M D) : MS := fun ρ => match ρ[i]? with
  | some (some (.fd (.ct (.lst _)))) => sBind m (fun d ρ' => match ρ'[i]? with
    | some (some (.fd (.ct (.lst ds)))) => if ds.length < lim then .next (ρ'.set i (some (.lst (ds ++ [d])))) else .bad
    | _ => .bad) ρ
  | _ => .bad
section
variable {X : Cx} {W : WX'} {mu : List Nat} {e : Expr} {p : Bool} {pos : Pos}
theorem dS_app {i : Nat} {st : Stmt} {m : M D} (h : ∀ t, PA X [e] t → PS X st (tDrop (tBM X.K "list" rAppend (tVar i) t))) (he : PE X e (tV (kx X) W p m)) (hs : starEach [e] X.env = (false, eval e X.env) :: starEach [] X.env := by rfl) : PS X st (tS (kx X) W mu (sApp i m)) :=
  ps_imp (h _ (pa_cons he pa_nil hs)) fun E σ H ⟨A, F, ρ, g, h⟩ => by
    unfold sApp at h
    split at h
    · rename_i ds0 e0
      obtain ⟨v0, h0, w0⟩ := g.slot e0
      obtain ⟨a0, vs0, rfl, _, h1, r1⟩ := w0.lst_own
      refine ⟨.ref a0, h0, ?_, A, F, ρ, [], [], g, h.bind.imp fun d ρ1 h v A1 F1 H1 s1 g1 r => ?_⟩
      · exact .inl ⟨rfl, vs0, .inl (.inl h1)⟩
      · split at h
        · rename_i ds1 e1
          obtain ⟨a, vs, h2, h3, h4, h5, w⟩ := g1.writeS (ds' := ds1 ++ [d]) e1
          rw [h0] at h2
          cases h2
          split at h
          · rename_i hl
            obtain ⟨g2, f2⟩ := w (vs ++ [v]) (h5.append (.cons r .nil))
            exact ⟨a0, vs, v, rfl, rfl, h4, by rw [h5.length, ← lim_eq]; exact hl, h _ _ F1 _ (s1.fr.trans f2) g2 fun _ _ => rfl⟩
          · exact h.elim
        · exact h.elim
    · exact h.elim
end
/-! ### dicts -/
def setAt {κ α : Type} [DecidableEq κ] : List κ → List α → κ → α → List α
  | n :: ns, v :: vs, k, d => (if n = k then d else v) :: setAt ns vs k d
  | _, vs, _, _ => vs
def putKs {κ : Type} [DecidableEq κ] (ks : List κ) (k : κ) : List κ := if k ∈ ks then ks else ks ++ [k]
def putVs {κ α : Type} [DecidableEq κ] (ks : List κ) (vs : List α) (k : κ) (d : α) : List α := if k ∈ ks then setAt ks vs k d else vs ++ [d]
theorem any_mem {κ : Type} [DecidableEq κ] (kvs : List (κ × V)) (k : κ) : (kvs.any fun kv => decide (kv.1 = k)) = true ↔ k ∈ kvs.map (·.1) := by
  simp only [List.any_eq_true, decide_eq_true_eq, List.mem_map]
theorem putK_fst {κ : Type} [DecidableEq κ] (kvs : List (κ × V)) (k : κ) (v : V) : (putK kvs k v).map (·.1) = putKs (kvs.map (·.1)) k := by
  unfold putK putKs
  by_cases h : k ∈ kvs.map (·.1)
  · rw [if_pos ((any_mem kvs k).mpr h), if_pos h, List.map_map]
    apply List.map_congr_left
    intro p _
    show (if p.1 = k then (p.1, v) else p).1 = p.1
    split <;> rfl
  · rw [if_neg (fun z => h ((any_mem kvs k).mp z)), if_neg h]
    simp
theorem setAt_reps {κ : Type} [DecidableEq κ] {κx : Kx} {F : Hp} {v : V} {d : D} (r : Rep κx F v d) (k : κ) : ∀ {kvs : List (κ × V)} {ds : List D}, Reps κx F (kvs.map (·.2)) ds → Reps κx F ((kvs.map fun kv => if kv.1 = k then (kv.1, v) else kv).map (·.2)) (setAt (kvs.map (·.1)) ds k d)
  | [], _, .nil => .nil
  | (n, u) :: kvs, _ :: ds, .cons h hs => by
    simp only [List.map_cons, setAt]
    refine .cons ?_ (setAt_reps r k hs)
    by_cases e : n = k
    · rw [if_pos e, if_pos e]; exact r
    · rw [if_neg e, if_neg e]; exact h
theorem putK_reps {κ : Type} [DecidableEq κ] {κx : Kx} {F : Hp} {v : V} {d : D} (r : Rep κx F v d) (k : κ) {kvs : List (κ × V)} {ds : List D} (h : Reps κx F (kvs.map (·.2)) ds) : Reps κx F ((putK kvs k v).map (·.2)) (putVs (kvs.map (·.1)) ds k d) := by
  unfold putK putVs
  by_cases hk : k ∈ kvs.map (·.1)
  · rw [if_pos ((any_mem kvs k).mpr hk), if_pos hk]
    exact setAt_reps r k h
  · rw [if_neg (fun z => hk ((any_mem kvs k).mp z)), if_neg hk, List.map_append]
    exact h.append (.cons r .nil)
def putO (o : O) (k d : D) : Option O := match o, k with
  | .fd (.ct (.dk ks vs)), k => match keyD k with
    | some k => if ks.length < lim then some (.fd (.ct (.dk (putKs ks k) (putVs ks vs k d)))) else none
    | none => none
  | .fd (.ct (.dt ks vs)), .tup k => match keysD k with
    | some k => if ks.length < lim then some (.fd (.ct (.dt (putKs ks k) (putVs ks vs k d)))) else none
    | none => none
  | _, _ => none
def sPut (i : Nat) (mk mv : M D) : MS := sBind mv fun d ρ => match ρ[i]? with
  | some (some _) => sBind mk (fun k ρ' => match ρ'[i]? with
    | some (some o) => match putO o k d with
      | some o' => .next (ρ'.set i (some o'))
      | none => .bad
    | _ => .bad) ρ
  | _ => .bad
theorem Own.ct_v {κ : Kx} {F H : Hp} {c : Ct} {v : V} {S : List Addr} (w : Own κ F H (.fd (.ct c)) v S) : ∃ a, v = .ref a ∧ S = [a] ∧ OwnC κ F H c a := by
  cases w with
  | fd w => cases w with
    | ct w => exact ⟨_, rfl, rfl, w⟩
/-- a slot's one cell changes -/
theorem gPutS {κ : Kx} {A : Fp} {F H : Hp} {ρ : Env} {σ : L2.St} {τ : List O} {υ : List V} {c c' : Ct} {i : Nat} {a : Addr} {u : HO} (g : G κ A F H ρ σ τ υ) (h : ρ[i]? = some (some (.fd (.ct c)))) (hv : σ[i]? = some (some (.ref a))) (w : OwnC κ F (upd H a u) c' a) :
    G κ A F (upd H a u) (ρ.set i (some (.fd (.ct c')))) σ τ υ ∧ Fr A F H A F (upd H a u) := by
  obtain ⟨v, h1, h2⟩ := g.slot h
  obtain ⟨b, rfl, hS, _⟩ := h2.ct_v
  rw [hv] at h1; cases h1
  have hi : i < ρ.length := by
    rcases Nat.lt_or_ge i ρ.length with q | q
    · exact q
    · rw [List.getElem?_eq_none q] at h; cases h
  have q := g.write1 (ρ' := ρ.set i (some (.fd (.ct c')))) (τ' := τ) (x := .s i) (o := .fd (.ct c)) (o' := .fd (.ct c')) (a := a) (u := u) (by simp) rfl (by simp [atO, h]) (by rw [hS]; simp) (fun o e => by simp [atO, hi] at e; exact e.symm)
    (fun y o n e => by
      cases y with
      | t k => exact e
      | s j =>
        have hj : j ≠ i := fun z => n (by rw [z])
        simp only [atO] at e ⊢
        rw [List.getElem?_set_ne (Ne.symm hj)] at e
        exact e) (v := .ref a) (by simp [atV, hv]) (by rw [hS]; exact .fd (.ct w))
  rw [upA_id] at q
  exact q
section
variable {X : Cx} {W : WX'} {mu : List Nat} {e k : Expr} {p q : Bool} {pos : Pos}
theorem dS_put {i : Nat} {st : Stmt} {x : Str} {px : Pos} {mk mv : M D} (h : ∀ td ty tv, PE X (.Name x px) td → PE X k ty → PE X e tv → PS X st (sDPut td ty tv)) (hx : PE X (.Name x px) (tVar i)) (hk : PE X k (tV (kx X) W p mk)) (he : PE X e (tV (kx X) W q mv)) : PS X st (tS (kx X) W mu (sPut i mk mv)) :=
  ps_imp (h _ _ _ hx hk he) fun E σ H ⟨A, F, ρ, g, h⟩ => ⟨A, F, ρ, [], [], g, h.bind.imp fun d ρ1 h v A1 F1 H1 s1 g1 r1 => by
    split at h
    · rename_i o0 e0
      obtain ⟨v0, h0, w0⟩ := g1.slot e0
      refine ⟨v0, h0, A1, F1, ρ1, [], [], g1, (PsO.bind h).step s1.fr |>.imp fun k ρ2 h y A2 F2 H2 s2 g2 r2 => ?_⟩
      split at h
      · rename_i o1 e1
        split at h
        · rename_i o' eo
          unfold putO at eo
          split at eo
          · rename_i ks vs kd
            split at eo
            · rename_i k' ek
              split at eo
              · rename_i hl
                cases eo
                obtain ⟨v2, h2, w2⟩ := g2.slot e1
                rw [h0] at h2; cases h2
                obtain ⟨a, rfl, _, kvs, h3, rfl, h5⟩ := w2.ct_v
                have hk := key_v r2 ek
                subst hk
                have hv' := r1.mono s2.fr.grow
                obtain ⟨g3, f3⟩ := gPutS (c' := .dk (putKs (kvs.map (·.1)) k') (putVs (kvs.map (·.1)) _ k' d)) (u := .dK (putK kvs k' v)) g2 e1 h0 ⟨putK kvs k' v, upd_same, putK_fst kvs k' v, putK_reps hv' k' h5⟩
                exact ⟨a, _, rfl, DPut.k h3 (by rw [← lim_eq]; simpa using hl), h _ _ F2 _ ((s1.fr.trans s2.fr).trans f3) g3 fun _ _ => rfl⟩
              · cases eo
            · cases eo
          · rename_i ks vs kd
            split at eo
            · rename_i k' ek
              split at eo
              · rename_i hl
                cases eo
                obtain ⟨v2, h2, w2⟩ := g2.slot e1
                rw [h0] at h2; cases h2
                obtain ⟨a, rfl, _, kvs, h3, rfl, h5⟩ := w2.ct_v
                obtain ⟨b, ws, rfl, hb, rb⟩ := r2.tup_v
                have hk := keys_v rb ek
                subst hk
                have hv' := r1.mono s2.fr.grow
                obtain ⟨g3, f3⟩ := gPutS (c' := .dt (putKs (kvs.map (·.1)) k') (putVs (kvs.map (·.1)) _ k' d)) (u := .dT (putK kvs k' v)) g2 e1 h0 ⟨putK kvs k' v, upd_same, putK_fst kvs k' v, putK_reps hv' k' h5⟩
                exact ⟨a, _, rfl, DPut.t h3 (g2.fh _ _ hb) (by rw [← lim_eq]; simpa using hl), h _ _ F2 _ ((s1.fr.trans s2.fr).trans f3) g3 fun _ _ => rfl⟩
              · cases eo
            · cases eo
          · cases eo
        · exact h.elim
      · exact h.elim
    · exact h.elim⟩
end
/-! displays -/
def tPD (κ : Kx) (W : WX') (m : M (List (D × D))) (σ : L2.St) (H : Hp) (Q : List (V × V) → Hp → Prop) : Prop := ∃ A F ρ τ υ, G κ A F H ρ σ τ υ ∧ Wp κ W A F H σ τ υ (m ρ) fun ds ρ' => ∀ ps A' F' H', Fr A F H A' F' H' → G κ A' F' H' ρ' σ τ υ →
  Reps κ F' (ps.map (·.1)) (ds.map (·.1)) → Reps κ F' (ps.map (·.2)) (ds.map (·.2)) → Q ps H'
def DP (X : Cx) (W : WX') (pos : Pos) (ks : List (Option Expr)) (vs : List Expr) (m : M (List (D × D))) : Prop := ∃ trs, PPs X pos ks vs trs ∧ ∀ σ H Q, tPD (kx X) W m σ H Q → tPairs trs σ H Q
def mConsP (mk mv : M D) (ms : M (List (D × D))) : M (List (D × D)) := mBind mk fun k => mBind mv fun v => mBind ms fun ds => mPure ((k, v) :: ds)
theorem dP_nil {X : Cx} {W : WX'} {pos : Pos} : DP X W pos [] [] (mPure []) := ⟨[], pps_nil, fun σ H Q ⟨A, F, ρ, τ, υ, g, h⟩ => h [] A F H .refl g .nil .nil⟩
theorem dP_cons {X : Cx} {W : WX'} {pos : Pos} {k v : Expr} {ks : List (Option Expr)} {vs : List Expr} {p q : Bool} {mk mv : M D} {ms : M (List (D × D))} (hk : PE X k (tV (kx X) W p mk)) (hv : PE X v (tV (kx X) W q mv)) (hr : DP X W pos ks vs ms) : DP X W pos (some k :: ks) (v :: vs) (mConsP mk mv ms) := by
  obtain ⟨trs, h, i⟩ := hr
  refine ⟨_, pps_cons hk hv h, fun σ H Q ⟨A, F, ρ, τ, υ, g, h⟩ => ⟨A, F, ρ, τ, υ, g, h.bind.imp fun dk ρ1 h x A1 F1 H1 s1 g1 r1 => ⟨A1, F1, ρ1, τ, υ, g1, (h.step s1.fr).bind.imp fun dv ρ2 h y A2 F2 H2 s2 g2 r2 => i _ _ _ ⟨A2, F2, ρ2, τ, υ, g2, (h.step s2.fr).bind.imp fun ds ρ3 h ps A3 F3 H3 f3 g3 r3 r4 =>
    h ((x, y) :: ps) A3 F3 H3 ((s1.fr.trans s2.fr).trans f3) g3 (.cons (r1.mono (s2.fr.grow.trans f3.grow)) r3) (.cons (r2.mono f3.grow) r4)⟩⟩⟩⟩
def mDisp (m : M (List (D × D))) : M O := mBind m fun ds => match keysD (ds.map (·.1)) with
  | some ks => if ks.Nodup ∧ ds.length ≤ 15 then mPure (.fd (.ct (.dk ks (ds.map (·.2))))) else fun _ => .bad
  | none => fun _ => .bad
theorem mergeK_nd : ∀ {more kvs : List (Key × V)}, ((kvs ++ more).map (·.1)).Nodup → mergeK kvs more = kvs ++ more
  | [], kvs, _ => by simp [mergeK]
  | p :: more, kvs, h => by
    have hp : p.1 ∉ kvs.map (·.1) := fun z => by
      simp only [List.map_append, List.map_cons] at h
      exact (List.nodup_append.mp h).2.2 _ z _ (by simp) rfl
    have e : putK kvs p.1 p.2 = kvs ++ [p] := by
      unfold putK
      rw [if_neg (fun z => hp ((any_mem kvs p.1).mp z))]
    show mergeK (putK kvs p.1 p.2) more = _
    rw [e, mergeK_nd (by simpa using h)]
    simp
theorem pairs_of {κ : Kx} {F : Hp} : ∀ {ps : List (V × V)} {ds : List (D × D)} {ks : List Key}, Reps κ F (ps.map (·.1)) (ds.map (·.1)) → keysD (ds.map (·.1)) = some ks → ∃ kvs : List (Key × V), ps = kvs.map (fun kv => (kV kv.1, kv.2)) ∧ kvs.map (·.1) = ks ∧ kvs.map (·.2) = ps.map (·.2) := by
  intro ps ds ks r e
  have h := keys_v r e
  refine ⟨ks.zip (ps.map (·.2)), ?_, ?_, ?_⟩
  · clear r e
    induction ps generalizing ks with
    | nil => cases ks <;> simp at h ⊢
    | cons p ps ih => cases ks with
      | nil => simp at h
      | cons k ks => simp at h ⊢; exact ⟨by rw [← h.1], by simpa using ih h.2⟩
  · have hl : ks.length = (ps.map (·.2)).length := by have := congrArg List.length h; simp at this ⊢; omega
    exact List.map_fst_zip (Nat.le_of_eq hl)
  · have hl : ks.length = (ps.map (·.2)).length := by have := congrArg List.length h; simp at this ⊢; omega
    exact List.map_snd_zip (Nat.le_of_eq hl.symm)
theorem dE_disp {X : Cx} {W : WX'} {pos : Pos} {ks : List (Option Expr)} {vs : List Expr} {m : M (List (D × D))} (h : DP X W pos ks vs m) (hall : ks.all (·.isSome) = true := by rfl) (hl : ks.length = vs.length := by rfl) (h0 : ks ≠ [] := by nofun) (h15 : ks.length ≤ 15 := by decide) :
    PE X (.Dict ks vs pos) (tE (kx X) W false (mDisp m)) := by
  obtain ⟨trs, hp, i⟩ := h
  refine pe_imp (pe_disp hp hall hl h0 h15) fun σ H Q ⟨A, F, ρ, τ, υ, g, h⟩ p hpn => ?_
  obtain ⟨g1, f1⟩ := g.pushNew (r := .fd (.ct (.dk [] []))) (o := .dK []) hpn rfl (.fd (.ct ⟨[], upd_same, rfl, .nil⟩))
  refine i _ _ _ ⟨_, F, ρ, _, _, g1, ((h.bind.step f1).pop).imp fun ds ρ1 h ps A2 F2 H2 f2 g2 r1 r2 => ?_⟩
  have hlu : τ.length = υ.length := g.lent
  obtain ⟨u, h3, h4⟩ := g2.own (.t τ.length) _ atO_top
  rw [hlu, atV_top] at h3; cases h3
  obtain ⟨b, eb, hS, kvs0, h5, h6, h7⟩ := h4.ct_v
  cases eb
  have hk0 : kvs0 = [] := by simpa using h6
  subst hk0
  refine ⟨h5, ?_⟩
  cases ek : keysD (ds.map (·.1)) with
  | none => rw [ek] at h; exact h.elim
  | some ks1 =>
    rw [ek] at h
    simp only at h
    split at h
    · rename_i hc
      obtain ⟨kvs, e1, e2, e3⟩ := pairs_of r1 ek
      have hlen : kvs.length ≤ 15 := by
        have q := r2.length
        rw [List.length_map, List.length_map] at q
        have q2 := congrArg List.length e3
        rw [List.length_map, List.length_map] at q2
        omega
      refine ⟨kvs, e1, hlen, ?_⟩
      rw [mergeK_nd (kvs := []) (by simpa [e2] using hc.1), List.nil_append]
      have q := g2.write1 (ρ' := ρ1) (τ' := τ ++ [.fd (.ct (.dk ks1 (ds.map (·.2))))]) (x := .t τ.length) (o := .fd (.ct (.dk [] []))) (o' := .fd (.ct (.dk ks1 (ds.map (·.2))))) (a := p) (u := .dK kvs) rfl (by simp) atO_top (by rw [hS]; simp) (fun o e => by rw [atO_top] at e; cases e; rfl)
        (fun y o n e => by rw [atO_app n] at e ⊢; exact e) (v := .ref p) (by rw [hlu]; exact atV_top) (by rw [hS]; exact .fd (.ct ⟨kvs, upd_same, e2, by rw [e3]; exact r2⟩))
      exact h _ _ F2 _ (.no ((f1.trans f2).trans q.2)) q.1
    · exact h.elim
end DL

end

section
set_option Elab.async false
set_option linter.all false
set_option maxRecDepth 100000
/-! DL, part K: operands read late, owned operands; in; isinstance; sorted. -/
namespace DL
open PySem L2 RZ

/-! ### operands -/
/-- the left operand is a slot, read when the operation is done -/
def mOpN (i : Nat) (f : D → D → Option O) (mb : M (Option Nat × O)) : M O := fun ρ => match ρ[i]? with
  | some (some _) => mBind mb (fun y ρ' => match ρ'[i]? with
    | some (some o) => match f o.toD y.2.toD with
      | some r => .ok r ρ'
      | none => .bad
    | _ => .bad) ρ
  | _ => .bad
/-- the left operand is new, kept on the stack -/
def mOpS (f : D → D → Option O) (ma : M O) (mb : M (Option Nat × O)) : M O := mBind ma fun x => mBind mb fun y => match f x.toD y.2.toD with
  | some r => mPure r
  | none => fun _ => .bad
section
variable {X : Cx} {κ : Kx} {W : WX'} {a b : Expr} {pa pb : Bool} {ma : M O} {mb : M (Option Nat × O)} {pos : Pos} {r : R2} {f : D → D → Option O}
theorem tOp_ofN {i : Nat} (hs : Op2 κ r f) {σ : L2.St} {H : Hp} {Q : VK} (h : tE κ W false (mOpN i f mb) σ H Q) : tOp r (tVar i) (tB κ W pb mb) σ H Q := by
  obtain ⟨A, F, ρ, τ, υ, g, h⟩ := h
  unfold mOpN at h
  split at h
  · rename_i o0 e0
    obtain ⟨v1, h1, w1⟩ := g.slot e0
    refine ⟨v1, h1, A, F, ρ, τ, υ, g, h.bind.imp fun y ρ2 h v2 B2 A2 F2 H2 f2 g2 w2 _ => ?_⟩
    split at h
    · rename_i o e
      obtain ⟨v1', h1', w1'⟩ := g2.slot e
      rw [h1] at h1'; cases h1'
      cases e3 : f o.toD y.2.toD with
      | none => rw [e3] at h; exact h.elim
      | some z =>
        rw [e3] at h
        refine hs A2 F2 H2 ρ2 σ τ υ g2 o y.2 v1 v2 _ B2 w1' w2 z e3 Q fun v H3 ⟨A3, F3, f3, g3⟩ => ?_
        exact h v A3 F3 H3 (.no (f2.fr.trans f3.fr)) g3
    · exact h.elim
  · exact h.elim
theorem tOp_ofS (hs : Op2 κ r f) {σ : L2.St} {H : Hp} {Q : VK} (h : tE κ W false (mOpS f ma mb) σ H Q) : tOp r (tE κ W pa ma) (tB κ W pb mb) σ H Q := by
  obtain ⟨A, F, ρ, τ, υ, g, h⟩ := h
  refine ⟨A, F, ρ, τ, υ, g, h.bind.imp fun x ρ1 h v1 A1 F1 H1 s1 g1 => ?_⟩
  refine ⟨A1, F1, ρ1, τ ++ [x], υ ++ [v1], g1, ((h.step s1.fr).bind.pop).imp fun y ρ2 h v2 B2 A2 F2 H2 s2 g2 w2 _ => ?_⟩
  obtain ⟨g3, w1, f3⟩ := g2.pop
  cases e3 : f x.toD y.2.toD with
  | none => rw [e3] at h; exact h.elim
  | some z =>
    rw [e3] at h
    exact hs _ F2 H2 ρ2 σ τ υ g3 x y.2 v1 v2 _ B2 w1 w2 z e3 Q fun v H4 ⟨A4, F4, s4, g4⟩ => h v A4 F4 H4 (.no (((s1.fr.trans s2.fr).trans f3).trans s4.fr)) g4
theorem de_opN {i : Nat} {op : Operator} (ho : OpR X (binaryOp op) r) (hs : Op2 κ r f) (ha : PE X a (tVar i)) (hb : PE X b (tB κ W pb mb)) : PE X (.BinOp a op b pos) (tE κ W false (mOpN i f mb)) :=
  pe_imp (pe_op ho ha hb) fun _ _ _ h => tOp_ofN hs h
theorem de_opS {op : Operator} (ho : OpR X (binaryOp op) r) (hs : Op2 κ r f) (ha : PE X a (tE κ W pa ma)) (hb : PE X b (tB κ W pb mb)) : PE X (.BinOp a op b pos) (tE κ W false (mOpS f ma mb)) :=
  pe_imp (pe_op ho ha hb) fun _ _ _ h => tOp_ofS hs h
theorem de_cmpN {i : Nat} {op : CmpOp} (ho : OpR X (compareOp op) r) (hs : Op2 κ r f) (ha : PE X a (tVar i)) (hb : PE X b (tB κ W pb mb)) (hm : behindInMarks op b = false) : PE X (.Compare a [op] [b] pos) (tE κ W false (mOpN i f mb)) :=
  pe_imp (pe_cmpR ho ha hb hm) fun _ _ _ h => tOp_ofN hs h
theorem de_cmpS {op : CmpOp} (ho : OpR X (compareOp op) r) (hs : Op2 κ r f) (ha : PE X a (tE κ W pa ma)) (hb : PE X b (tB κ W pb mb)) (hm : behindInMarks op b = false) : PE X (.Compare a [op] [b] pos) (tE κ W false (mOpS f ma mb)) :=
  pe_imp (pe_cmpR ho ha hb hm) fun _ _ _ h => tOp_ofS hs h
theorem tE_bl {p : Bool} {m : M O} {σ : L2.St} {H : Hp} {Q : Bool → Hp → Prop} (h : tT κ W p (mBl m) σ H Q) : tE κ W p m σ H (fun x H1 => ∃ c, x = .bl c ∧ Q c H1) := by
  obtain ⟨A, F, ρ, τ, υ, g, h⟩ := h
  exact ⟨A, F, ρ, τ, υ, g, h.bind.imp fun o ρ' h v A' F' H' s g' => by
    split at h
    · rename_i b
      obtain ⟨rfl, A2, g2, s2⟩ := bl_top g'
      exact ⟨b, rfl, h A2 F' H' ((s.trans s2).imp fun z => by rw [z]; rfl) g2⟩
    · exact h.elim⟩
theorem dT_cmpN {i : Nat} {op : CmpOp} (ho : OpR X (compareOp op) r) (hs : Op2 κ r f) (ha : PE X a (tVar i)) (hb : PE X b (tB κ W pb mb)) (hm : behindInMarks op b = false) : PT X (.Compare a [op] [b] pos) (tT κ W false (mBl (mOpN i f mb))) :=
  pt_imp (pt_cmpR ho ha hb hm) fun _ _ _ h => tOp_ofN hs (tE_bl h)
theorem dT_cmpS {op : CmpOp} (ho : OpR X (compareOp op) r) (hs : Op2 κ r f) (ha : PE X a (tE κ W pa ma)) (hb : PE X b (tB κ W pb mb)) (hm : behindInMarks op b = false) : PT X (.Compare a [op] [b] pos) (tT κ W false (mBl (mOpS f ma mb))) :=
  pt_imp (pt_cmpR ho ha hb hm) fun _ _ _ h => tOp_ofS hs (tE_bl h)
end

/-! ### in -/
def flD : D → Option V
  | .non => some .non
  | .bl b => some (.bl b)
  | .int i => some (.int i)
  | .str x => some (.str x)
  | _ => none
def flsD : List D → Option (List V)
  | [] => some []
  | d :: ds => match flD d, flsD ds with
    | some v, some vs => some (v :: vs)
    | _, _ => none
theorem fl_v {κ : Kx} {F : Hp} {v u : V} {d : D} (r : Rep κ F v d) (e : flD d = some u) : v = u ∧ flatV v = true := by
  cases r <;> simp only [flD] at e <;> first | (cases e; exact ⟨rfl, rfl⟩) | cases e
theorem fls_v {κ : Kx} {F : Hp} : ∀ {vs us : List V} {ds : List D}, Reps κ F vs ds → flsD ds = some us → vs = us ∧ vs.all flatV = true
  | _, _, _, .nil, e => by simp only [flsD] at e; cases e; exact ⟨rfl, rfl⟩
  | _, _, _, .cons h r, e => by
    simp only [flsD] at e
    split at e
    · rename_i v vs e1 e2
      cases e
      obtain ⟨h1, h2⟩ := fl_v h e1
      obtain ⟨h3, h4⟩ := fls_v r e2
      exact ⟨by rw [h1, h3], by simp [h2, h4]⟩
    · cases e
def inB (x y : D) : Option Bool := match flD x, y with
  | some v, .tup ds => match flsD ds with
    | some vs => some (inV v vs)
    | none => none
  | some v, .lst ds => match flsD ds with
    | some vs => some (inV v vs)
    | none => none
  | _, _ => none
def inO (neg : Bool) (x y : D) : Option O := match inB x y with
  | some b => some (.sh (.bl (if neg then !b else b)))
  | none => none
theorem in_sem {κ : Kx} {neg : Bool} : Op2 κ (rIn κ.K neg) (inO neg) := by
  intro A F H ρ σ τ υ g o1 o2 v1 v2 B1 B2 w1 w2 o e Q q
  unfold inO at e
  split at e
  · rename_i b eb
    cases e
    unfold inB at eb
    split at eb
    · rename_i v ds ev ed
      split at eb
      · rename_i vs es
        cases eb
        obtain ⟨a, ws, rfl, h1, h2⟩ := w2.tup_v ed
        obtain ⟨h3, h4⟩ := fls_v h2 es
        obtain ⟨h5, h6⟩ := fl_v (w1.repH g.fh) ev
        subst h3 h5
        refine ⟨a, ws, rfl, .inr (SqT.of (g.fh _ _ h1)), h6, h4, ?_⟩
        have := q _ _ (fin_sh g (.bl (if neg then !inV v1 ws else inV v1 ws)))
        cases neg <;> exact this
      · cases eb
    · rename_i v ds ev ed
      split at eb
      · rename_i vs es
        cases eb
        obtain ⟨a, ws, rfl, h1, h2⟩ := w2.lst_v ed g.fh
        obtain ⟨h3, h4⟩ := fls_v h2 es
        obtain ⟨h5, h6⟩ := fl_v (w1.repH g.fh) ev
        subst h3 h5
        refine ⟨a, ws, rfl, .inl (SqL.of h1), h6, h4, ?_⟩
        have := q _ _ (fin_sh g (.bl (if neg then !inV v1 ws else inV v1 ws)))
        cases neg <;> exact this
      · cases eb
    · cases eb
  · cases e
theorem op_inA {X : Cx} : OpR X (compareOp .In) (rIn X.K false) := op_in_seq
theorem op_ninA {X : Cx} : OpR X (compareOp .NotIn) (rIn X.K true) := op_notIn_seq

/-! ### isinstance -/
def tyN : D → Option String
  | .non => some "NoneType"
  | .bl _ => some "bool"
  | .int _ => some "int"
  | .str _ => some "str"
  | .tup _ => some "tuple"
  | .lst _ => some "list"
  | .dk _ _ => some "dict"
  | .dt _ _ => some "dict"
  | _ => none
theorem ty_of {κ : Kx} {H : Hp} {v : V} {d : D} {t : String} (r : Rep κ H v d) (e : tyN d = some t) : TyX κ.K H v (.type t) := by
  cases r with
  | non => cases e; exact .base .non
  | bl b => cases e; exact .base (.bl b)
  | int i => cases e; exact .base (.int i)
  | str x => cases e; exact .base (.str x)
  | tup h r => cases e; exact .base (.tup h)
  | lst h r => cases e; exact .base (.lst h)
  | fz h r => cases e
  | dk h r => cases e; exact .base (.dK h)
  | dt h r => cases e; exact .base (.dT h)
  | ob _ _ _ => cases e
def isiT (t : String) : List String → Option Bool
  | [] => some false
  | T :: Ts => match kitB t T with
    | some true => some true
    | some false => isiT t Ts
    | none => none
def isiD (Ts : List String) (d : D) : Option Bool := match tyN d with
  | some t => isiT t Ts
  | none => none
def mIsi (Ts : List String) (m : M (Option Nat × O)) : M D := mBind m fun x => match isiD Ts x.2.toD with
  | some b => mPure (.bl b)
  | none => fun _ => .bad
theorem isiT_any {K : PySem.W.Frag} {t : String} : ∀ {Ts : List String} {b : Bool}, isiT t Ts = some b → PySem.W.kitAny K (.type t) (Ts.map Value.type) = some b
  | [], b, e => by cases e; rfl
  | T :: Ts, b, e => by
    unfold isiT at e
    cases q : kitB t T with
    | none => rw [q] at e; cases e
    | some c =>
      rw [q] at e
      cases c with
      | true => cases e; exact kitAny_cons (kit_ty q) nofun fun _ => rfl
      | false => exact kitAny_cons (kit_ty q) (fun _ => isiT_any e) nofun
section
variable {X : Cx} {W : WX'} {e : Expr} {p : Bool} {m : M (Option Nat × O)}
theorem dV_isi1 {T : String} {c st : Expr} (h : ∀ t, PA X [e, c] t → PE X st (tCB (rIsi X.K) t)) (he : PE X e (tB (kx X) W p m)) (hc : PE X c (tC (.ty T)))
    (hs1 : starEach (e :: [c]) X.env = (false, eval e X.env) :: starEach [c] X.env := by rfl) (hs2 : starEach (c :: []) X.env = (false, eval c X.env) :: starEach [] X.env := by rfl) : PE X st (tV (kx X) W p (mIsi [T] m)) :=
  pe_imp (h _ (pa_cons he (pa_cons hc pa_nil hs2) hs1)) fun σ H Q ⟨A, F, ρ, τ, υ, g, h⟩ => ⟨A, F, ρ, τ, υ, g, h.bind.imp fun x ρ1 h v B A1 F1 H1 s1 g1 w _ => by
    cases ei : isiD [T] x.2.toD with
    | none => rw [ei] at h; exact h.elim
    | some b =>
      rw [ei] at h
      unfold isiD at ei
      split at ei
      · rename_i t et
        refine ⟨v, .ty T, .type t, .type T, b, rfl, .ty T, ty_of (w.repH g1.fh) et, ?_, h _ A1 F1 H1 s1 g1 (.bl _)⟩
        unfold isiT at ei
        cases q : kitB t T with
        | none => rw [q] at ei; cases ei
        | some c => rw [q] at ei; cases c <;> cases ei <;> exact kit_ty q
      · cases ei⟩
theorem dV_isi2 {T T2 : String} {c d st : Expr} {kk : Nat} {tpos : Pos} (h : ∀ t, PA X [e, .Tuple [c, d] kk tpos] t → PE X st (tCB (rIsiT X.K) t)) (he : PE X e (tB (kx X) W p m)) (hc : PE X c (tC (.ty T))) (hd : PE X d (tC (.ty T2)))
    (hs1 : starEach (e :: [.Tuple [c, d] kk tpos]) X.env = (false, eval e X.env) :: starEach [.Tuple [c, d] kk tpos] X.env := by rfl) (hs2 : starEach (.Tuple [c, d] kk tpos :: []) X.env = (false, eval (.Tuple [c, d] kk tpos) X.env) :: starEach [] X.env := by rfl)
    (hs3 : starEach (c :: [d]) X.env = (false, eval c X.env) :: starEach [d] X.env := by rfl) (hs4 : starEach (d :: []) X.env = (false, eval d X.env) :: starEach [] X.env := by rfl) : PE X st (tV (kx X) W p (mIsi [T, T2] m)) :=
  pe_imp (h _ (pa_cons he (pa_cons (pe_tup (pa_cons hc (pa_cons hd pa_nil hs4) hs3)) pa_nil hs2) hs1)) fun σ H Q ⟨A, F, ρ, τ, υ, g, h⟩ => ⟨A, F, ρ, τ, υ, g, h.bind.imp fun x ρ1 h v B A1 F1 H1 s1 g1 w _ => by
    cases ei : isiD [T, T2] x.2.toD with
    | none => rw [ei] at h; exact h.elim
    | some b =>
      rw [ei] at h
      unfold isiD at ei
      split at ei
      · rename_i t et
        refine ⟨by show 2 ≤ sizeLine; decide, fun a ha => ?_⟩
        obtain ⟨g2, s2⟩ := sJunk (pp := p) g1 (.tup [.ty T, .ty T2]) ha
        exact ⟨v, a, _, .type t, [.type T, .type T2], b, rfl, upd_same, .cons (.ty T) (.cons (.ty T2) .nil), ty_of ((w.repH g1.fh).mono (same_new ha)) et, isiT_any (Ts := [T, T2]) ei, h _ A1 F1 _ ((s1.trans s2).imp fun z => by rw [z]; rfl) g2 (.bl _)⟩
      · cases ei⟩
end
end DL

end

section
set_option Elab.async false
set_option linter.all false
set_option maxRecDepth 100000
/-! DL, part L: set(list of ints), sorted(set), sorted(.., key=abs). -/
namespace L2
open PySem PySem.Spec PyProof.Rows
section
variable {P : Program} {w : World} {A : Around} {E : Value → Shared → Prop} {s : Shared}
set_option maxHeartbeats 3200000 in
/-- set(l), l a list of ints -/
theorem dl_set_lst {l : Addr} {items : Array Value} (ns : List Int) {Q : Value → Shared → Prop} (hh : A.handled = none) (hl : s.heap.IsList l items) (hit : IntsAre items.toList ns) (hb : ns.length + 1 < scanBound)
    (h : ∀ (h' : Heap) (tk c : Nat), SetR w h' s.heap.objs.size (fun j => decide (j ∈ ns)) c → c ≤ ns.length → (∀ b o, s.heap.get? b = some o → h'.get? b = some o) → Q (.ref s.heap.objs.size) { s with heap := h', toks := tk }) :
    wpAny (model P w) A (call (.type "set") [.ref l]) Q E s := by
  have hisz : items.size = ns.length := by
    have q := IntsAre.length hit
    rw [Array.length_toList] at q
    exact q
  obtain ⟨c, tl, hmro⟩ := F.called_set.mro
  have hmade := F.called_set.made
  have hsub := F.called_set.sub
  refine wpAny_call (codeAny_of_tree ?_)
  show wpAny _ _ (callAny (.type "set") _) _ _ _
  refine wpAny_pure ⟨Code.quiet_builtin _ (by decide +kernel), codeAny_builtin F.entry_type_call ?_⟩
  rw [Around.under_plain (weight_type_call_type "set" [.ref l] []) rfl]
  have h1 := F.called_set.notType
  have h2 := F.called_set.canCreate
  have hct := F.typeCall_set_1 (.ref l)
  repeat (any_goals (first | assumption | wp_step))
  generalize hP : s.heap.push { cls := .type "set", dict := none, data := .set #[] 0 (.fresh 0 0 (!w.params.followText "set-order")) } = hp1
  have hsz1 : hp1.objs.size = s.heap.objs.size + 1 := by rw [← hP]; exact Heap.size_push ..
  have hS : hp1.get? s.heap.objs.size = some { cls := .type "set", dict := none, data := .set #[] 0 (.fresh 0 0 (!w.params.followText "set-order")) } := by rw [← hP]; exact Heap.get?_push_size _ rfl
  have old : ∀ b o, s.heap.get? b = some o → hp1.get? b = some o := fun b o e => by rw [← hP]; exact Heap.get?_push_of_some _ e
  refine codeAny_mono (code_set_led1 (.ref l) (E := E) (Q₁ := fun obj s₁ => obj = .ref s.heap.objs.size ∧ s₁ = { s with heap := hp1 }) ⟨rfl, by rw [← hP]⟩) fun r s₁ hr => ?_
  cases r with
  | error e => exact hr
  | ok fl =>
    cases fl with
    | ret obj =>
      obtain ⟨rfl, rfl⟩ := hr
      have hT : Shared.TypeIs { s with heap := hp1 } (.ref s.heap.objs.size) "set" := ⟨_, hS, rfl⟩
      have hli := F.called_set.init.lookup
      have hbi := F.called_set.init.bind (.ref s.heap.objs.size)
      repeat (any_goals (first | assumption | wp_step))
      refine codeAny_mono (codeAny_call_builtin (R := wants (fun r s₂ => r = .none ∧ ∃ h' tk c, s₂ = { s with heap := h', toks := tk } ∧ SetR w h' s.heap.objs.size (fun j => decide (j ∈ ns)) c ∧ c ≤ ns.length ∧
          (∀ b o, s.heap.get? b = some o → h'.get? b = some o)) E) F.called_set.init.plain F.entry_set_init (check_set_init_1 hT ?_)) fun r₂ s₂ hr₂ => ?_
      · obtain ⟨⟨ocls, odict, odata, oslots⟩, hol, hcl, nl, hdl⟩ := hl
        simp only at hcl hdl
        subst hcl hdl
        have hol' := old _ _ hol
        have hsls := F.sub_list_set
        have hslf := F.sub_list_frozenset
        have hne : (Value.type "list" == Value.type "dict") = false := by decide
        have hl1 : hp1.IsList l items := ⟨_, hol', rfl, nl, rfl⟩
        unfold Builtin.«set.__init__» noKeywords Builtin.Frozenset.updateFrom
        generalize hPI : pyIter = PI
        wp_walk
        subst hPI
        refine wpAny_pyIter_list hl1 ?_
        refine wpAny_bind (wpAny_runValue ?_)
        have hlS : l < s.heap.objs.size := Heap.lt_size hol
        have hh3 : A.in1.in1.in1.handled = none := by simp [hh]
        have hneI : l ≠ hp1.objs.size := by rw [hsz1]; exact Nat.ne_of_lt (Nat.lt_succ_of_lt hlS)
        have hSf : s.heap.objs.size ∉ [hp1.objs.size, l] := by
          rw [hsz1]; simp only [List.mem_cons, List.mem_singleton, List.not_mem_nil, or_false, not_or]
          exact ⟨Nat.ne_of_lt (Nat.lt_succ_self _), Nat.ne_of_gt hlS⟩
        have hval : ∀ (i : Nat) (v : Value), items[i]? = some v → ∃ k t, ns[i]? = some k ∧ v = .int k t := fun i v hv => by
          have hi : i < ns.length := by rw [← hisz]; exact (Array.getElem?_eq_some_iff.mp hv).1
          obtain ⟨t, e⟩ := PyProof.Rows.IntsAre.int_at hit i v (by rw [Array.getElem?_toList]; exact hv)
          refine ⟨ns[i], t, List.getElem?_eq_getElem hi, ?_⟩
          rw [e, List.getD_eq_getElem?_getD, List.getElem?_eq_getElem hi] <;> rfl
        refine set_update_ints ((Walks.list hh3 _ l hneI items).toS) s.heap.objs.size
          hSf ns hisz hb hval (items.size - 0) 0 _ (by omega) (Nat.zero_le _)
          ⟨⟨_, Heap.get?_push_size _ rfl, rfl, rfl⟩, (hl1.push _)⟩ ⟨0, Nat.le_refl 0, setR_new_at (Heap.get?_push_of_some _ hS)⟩ ?hR
        case hR =>
          intro s' c' hm hc' hS'
          obtain ⟨h', g2, d', tk', os'⟩ := s'
          have eg : g2 = s.gens := hm.gens
          have ed : d' = s.drawn := hm.drawn
          have eo : os' = s.os := hm.os
          subst eg; subst ed; subst eo
          show wpAny _ _ _ _ _ _
          refine wpAny_pure ?_
          show wpAny _ _ (ret Value.none) _ _ _
          rw [hisz] at hc'
          refine wpAny_pure ⟨rfl, h', tk', c', rfl, hS', hc', fun b o e => ?_⟩
          have hb0 : b < s.heap.objs.size := Heap.lt_size e
          exact hm.heap b o (by
            rw [hsz1]
            simp only [List.mem_cons, List.mem_singleton, List.not_mem_nil, or_false, not_or]
            exact ⟨Nat.ne_of_lt hb0, Nat.ne_of_lt (Nat.lt_succ_of_lt hb0)⟩) (Heap.get?_push_of_some _ (old b o e))
      · cases r₂ with
        | error e => exact hr₂
        | ok fl₂ =>
          cases fl₂ with
          | ret r =>
            obtain ⟨rfl, h', tk, c', rfl, hS', hc', hk'⟩ := hr₂
            repeat (any_goals (first | assumption | wp_step))
            exact h _ _ _ hS' hc' hk'
          | _ => exact hr₂.elim
    | _ => exact hr.elim
end
section
variable {X : Cx}
def rSetLI (K : PySem.W.Frag) (w : World) : List V → Hp → VK → Prop := fun xs H Q => ∃ (l : Addr) (ns : List Int), xs = [V.ref l] ∧ SqL K H l (ns.map V.int) ∧ ns.length ≤ 1000 ∧
  ∀ p c, H p = none → c ≤ ns.length → Q (.ref p) (upd H p (SetO w p (fun j => decide (j ∈ ns)) c))
theorem cr_setLI (hc : X.calm = true) : CallR X (.type "set") (rSetLI X.K X.w) := by
  intro pins s σ H xs us Q I r h
  obtain ⟨l, ns, rfl, hl, hk, q⟩ := h
  rw [Vals.ref1 r]
  obtain ⟨its, rv, pl, hz⟩ := I.list hl
  refine dl_set_lst ns (I.ok.hd hc) pl.isList (by simpa using ints_of_vals rv) (Nat.lt_of_le_of_lt (Nat.succ_le_succ hk) (by decide)) fun h' tk c R hc' k => ?_
  have hn : H s.heap.objs.size = none := I.hok.fresh (Nat.le_refl _)
  exact ⟨.ref s.heap.objs.size, upd H s.heap.objs.size (SetO X.w s.heap.objs.size (fun j => decide (j ∈ ns)) c), I.laid (t' := tk) k (Nat.le_refl _) (setO_new R), rfl, q _ c hn hc'⟩
end
end L2

end

section
set_option Elab.async false
set_option linter.all false
set_option maxRecDepth 100000
set_option maxHeartbeats 4000000
/-! DL, part M: sorted(.., key=abs). -/
namespace PyProof.Rows
open PySem
section
variable {prog : Program} {w : World} {A : Around} {E : Value → Shared → Prop} {s : Shared} {a kS : Addr} {vs : List Value} {kz : List Int} {keys : Array Value} {e e1 : Nat} {P : PySem.Fin → Shared → Prop}
theorem ka_tail {st : SortSt} (nk : s.heap.get? kS = some (seqObj "list" keys e)) (na : s.heap.get? a = some (seqObj "list" #[] e1)) (hka : kS ≠ a)
    (hk : IntsAre keys.toList kz) (hlen : kz.length = vs.length) (h64 : vs.length < 64) (hp : (arrOf st).Perm (keys.zip vs.toArray)) (hs : SortedTo (arrOf st) (arrOf st).size) (hfl : failedOf st = none)
    (h : ∀ h' tk out c, (∀ b o, b ≠ kS → b ≠ a → s.heap.get? b = some o → h'.get? b = some o) → h'.get? a = some (seqObj "list" out c) → KskOut false kz vs out.toList → P (.done (.ret .none)) { s with heap := h', toks := tk }) :
    wpAny (model prog w) A (ksk_tail a false e1 (.ref kS) st) P E s := by
  have hsz : keys.size = vs.length := by
    have h1 := hk.length
    rw [Array.length_toList] at h1
    omega
  have hsz2 : (arrOf st).size = vs.length := by rw [hp.size_eq, Array.size_zip, hsz, List.size_toArray, Nat.min_self]
  have hout : ((arrOf st).map (·.2)).size = vs.length := by simp only [Array.size_map]; exact hsz2
  have na1 : (s.heap.update kS (Obj.mapSeq fun _ => (#[] : Array Value))).get? a = some (seqObj "list" #[] e1) := (Heap.get?_update_ne _ _ _ _ hka.symm).trans na
  obtain ⟨c2, hc2⟩ : ∃ c2, ((s.heap.update kS (Obj.mapSeq fun _ => (#[] : Array Value))).update a (Obj.mapSeq fun _ => (arrOf st).map (·.2))).get? a = some (seqObj "list" ((arrOf st).map (·.2)) c2) :=
    ⟨_, get?_update_seq na1 fun _ => (arrOf st).map (·.2)⟩
  unfold ksk_tail
  try dsimp only
  refine wpAny_bind (listUpdate_at nk rfl ?_ (by rw [hsz, sizeLine_eq]; omega) (Nat.zero_le _))
  refine wpAny_bind (wpAny_letGo ?_)
  refine wpAny_bind (seqEpoch_at na1 rfl ?_)
  refine wpAny_bind (listUpdate_at na1 rfl ?_ (Nat.zero_le _) (by simp only [Bool.false_eq_true, if_false]; rw [hout, sizeLine_eq]; omega))
  rw [hfl]
  simp only [bne_self_eq_false, Bool.false_eq_true, if_false]
  refine wpAny_pure (h _ _ _ c2 (fun b o n1 n2 q => ?_) hc2 (ksk_out (b := false) hk hp hs))
  rw [Heap.get?_update_ne _ _ _ _ n2, Heap.get?_update_ne _ _ _ _ n1]
  exact q
theorem ka_end (nk : s.heap.get? kS = some (seqObj "list" keys e)) (na : s.heap.get? a = some (seqObj "list" #[] e1)) (hka : kS ≠ a)
    (hk : IntsAre keys.toList kz) (hlen : kz.length = vs.length) (h64 : vs.length < 64)
    (h : ∀ h' tk out c, (∀ b o, b ≠ kS → b ≠ a → s.heap.get? b = some o → h'.get? b = some o) → h'.get? a = some (seqObj "list" out c) → KskOut false kz vs out.toList → P (.done (.ret .none)) { s with heap := h', toks := tk }) :
    wpAny (model prog w) A (ksk_end a false vs.toArray e1 (.ref kS) keys) P E s := by
  have hsz : keys.size = vs.length := by
    have h1 := hk.length
    rw [Array.length_toList] at h1
    omega
  have hzs : (keys.zip vs.toArray).size = vs.length := by rw [Array.size_zip, hsz, List.size_toArray, Nat.min_self]
  unfold ksk_end
  try dsimp only
  rw [if_neg Bool.false_ne_true]
  by_cases h2 : vs.toArray.size < 2
  · rw [if_pos h2, if_pos h2]
    refine wpAny_bind (wpAny_pure ?_)
    rw [StateT.run_pure]
    refine wpAny_bind (wpAny_pure ?_)
    try dsimp only
    refine ka_tail (st := SortSt.mk' general' (if false = true then (keys.zip vs.toArray).reverse else keys.zip vs.toArray) #[] 7 none) nk na hka hk hlen h64 (Array.Perm.refl _) ?_ rfl h
    intro i j hij hj
    have hj2 : j < (keys.zip vs.toArray).size := hj
    rw [hzs] at hj2
    rw [List.size_toArray] at h2
    have : i = j := by omega
    subst this
    exact Int.le_refl _
  · rw [if_neg h2, if_neg h2]
    rw [List.size_toArray] at h2
    rw [ksk_kind hk (by rw [hsz]; omega)]
    refine wpAny_bind (wpAny_pure ?_)
    refine wpAny_bind (wpAny_mono (wpS_sortRuns (a₀ := keys.zip vs.toArray) (st := SortSt.mk' oneType' (if false = true then (keys.zip vs.toArray).reverse else keys.zip vs.toArray) #[] 7 none)
      (Q := fun _ st' => (arrOf st').Perm (keys.zip vs.toArray) ∧ failedOf st' = none ∧ SortedTo (arrOf st') (keys.zip vs.toArray).size)
      (ksk_intKeys hk) ⟨Array.Perm.refl _, rfl, rfl, rfl⟩ (by rw [hzs]; omega) (by rw [hzs]; exact h64) fun st' a1 a2 a3 => ⟨a1, a2, a3⟩) ?_ fun _ _ e => e)
    rintro ⟨⟨⟩, st'⟩ s' ⟨rfl, hp, hf, hs⟩
    try dsimp only
    exact ka_tail nk na hka hk hlen h64 hp (by rw [hp.size_eq]; exact hs) hf h
theorem ka_rest {f : Value} (nk : s.heap.get? kS = some (seqObj "list" #[] 0)) (na : s.heap.get? a = some (seqObj "list" #[] e1)) (hka : kS ≠ a)
    (hlen : kz.length = vs.length) (h64 : vs.length < 64)
    (turn : ∀ (i : Nat) (v : Value) (k : Int), vs[i]? = some v → kz[i]? = some k → ∀ (h : Heap) (tk : Nat),
      wpAny (model prog w) A (call f [v]) (fun r s' => ∃ t tk', r = .int k t ∧ s' = { s with heap := h, toks := tk' }) (fun _ _ => False) { s with heap := h, toks := tk })
    (h : ∀ h' tk out c, (∀ b o, b ≠ kS → b ≠ a → s.heap.get? b = some o → h'.get? b = some o) → h'.get? a = some (seqObj "list" out c) → KskOut false kz vs out.toList → P (.done (.ret .none)) { s with heap := h', toks := tk }) :
    wpAny (model prog w) A (ksk_rest a f false vs.toArray e1 (.ref kS)) P E s := by
  unfold ksk_rest
  refine wpAny_bind (wpAny_rule ?_)
  first
    | rw [List.forIn_toArray]
    | (rw [← Array.forIn_toList]; simp only [List.toList_toArray])
    | rw [← Array.forIn_toList]
  refine wpAny_bind (ksk_fold (fun i s' => ∃ h' tk kA e, s' = { s with heap := h', toks := tk } ∧ (∀ b o, b ≠ kS → s.heap.get? b = some o → h'.get? b = some o) ∧ h'.get? kS = some (seqObj "list" kA e) ∧ IntsAre kA.toList (kz.take i)) vs 0 s
    ⟨s.heap, s.toks, #[], 0, rfl, fun _ _ _ q => q, nk, by simpa using IntsAre.nil⟩ ?step ?done)
  case step =>
    rintro j x s' hx ⟨h', tk, kA, e, rfl, kp, nk', hk⟩
    simp only [Nat.zero_add] at hk ⊢
    have hj : j < vs.length := (List.getElem?_eq_some_iff.mp hx).1
    obtain ⟨k, hkj⟩ : ∃ k, kz[j]? = some k := ⟨_, List.getElem?_eq_getElem (by omega)⟩
    have hz : kA.size ≤ vs.length := by
      have h1 := hk.length
      rw [Array.length_toList, List.length_take] at h1
      omega
    refine wpAny_bind (wpAny_attempt (wpAny_mono (turn j x k hx hkj h' tk) (fun v s'' he => ?_) fun _ _ hF => hF.elim))
    obtain ⟨t2, tk2, rfl, rfl⟩ := he
    try dsimp only
    obtain ⟨c2, hc2⟩ : ∃ c2, (h'.update kS (Obj.mapSeq (·.push (.int k t2)))).get? kS = some (seqObj "list" (kA.push (.int k t2)) c2) := ⟨_, get?_update_seq nk' (·.push (.int k t2))⟩
    have ek : kz.take (j + 1) = kz.take j ++ [k] := by rw [List.take_add_one, hkj]; simp
    have ea : (kA.push (Value.int k t2)).toList = kA.toList ++ [Value.int k t2] := by simp
    refine wpAny_bind (listUpdate_at nk' rfl ?_ (by rw [sizeLine_eq]; omega) (Nat.le_trans (Nat.le_of_eq (Array.size_push ..)) (by rw [sizeLine_eq]; omega)))
    refine wpAny_pure ⟨rfl, _, _, kA.push (.int k t2), c2, rfl, fun b o n q => ?_, hc2, by rw [ea, ek]; exact ksk_snoc hk⟩
    rw [Heap.get?_update_ne _ _ _ _ n]
    exact kp b o n q
  case done =>
    rintro s' ⟨h', tk, kA, e, rfl, kp, nk', hk⟩
    have hk' : IntsAre kA.toList kz := by
      have e3 : kz.take (0 + vs.length) = kz := List.take_of_length_le (by omega)
      rw [e3] at hk
      exact hk
    try dsimp only
    refine wpAny_bind (listItems_at nk' rfl ?_)
    exact ka_end nk' (kp _ _ hka.symm na) hka hk' hlen h64 fun h3 tk3 out c k3 n3 o3 => h h3 tk3 out c (fun b o n1 n2 q => k3 b o n1 n2 (kp b o n1 q)) n3 o3
theorem ka_sort {f : Value} {n : Nat} (ho : s.heap.get? a = some (seqObj "list" vs.toArray n)) (hlen : kz.length = vs.length) (h64 : vs.length < 64)
    (turn : ∀ (i : Nat) (v : Value) (k : Int), vs[i]? = some v → kz[i]? = some k → ∀ (h : Heap) (tk : Nat),
      wpAny (model prog w) A (call f [v]) (fun r s' => ∃ t tk', r = .int k t ∧ s' = { s with heap := h, toks := tk' }) (fun _ _ => False) { s with heap := h, toks := tk })
    (h : ∀ h' tk out c, (∀ b o, b ≠ a → s.heap.get? b = some o → h'.get? b = some o) → h'.get? a = some (seqObj "list" out c) → KskOut false kz vs out.toList → P (.done (.ret .none)) { s with heap := h', toks := tk }) :
    wpAny (model prog w) A (ksk_tree a f false) P E s := by
  have ha : a < s.heap.objs.size := Heap.lt_size ho
  obtain ⟨e1, ho1⟩ : ∃ e1, (s.heap.update a (Obj.mapSeq fun _ => (#[] : Array Value))).get? a = some (seqObj "list" #[] e1) := ⟨_, get?_update_seq ho fun _ => #[]⟩
  have hkS : ((s.heap.update a (Obj.mapSeq fun _ => (#[] : Array Value))).push (seqObj "tuple" vs.toArray 0)).objs.size = s.heap.objs.size + 1 := by rw [size_push', Heap.size_update]
  unfold ksk_tree
  refine wpAny_bind (listItems_at ho rfl ?_)
  refine wpAny_bind (listUpdate_at ho rfl ?_ (by rw [List.size_toArray, sizeLine_eq]; omega) (Nat.zero_le _))
  refine wpAny_bind (seqEpoch_at ho1 rfl ?_)
  refine wpAny_bind (wpAny_newTuple ?_ (by show vs.length ≤ _; rw [sizeLine_eq]; omega))
  refine wpAny_bind (wpAny_newList ?_ (Nat.zero_le _))
  refine wpAny_holding ?_
  refine ka_rest (s := { s with heap := ((s.heap.update a (Obj.mapSeq fun _ => (#[] : Array Value))).push (seqObj "tuple" vs.toArray 0)).push (seqObj "list" #[] 0) }) (kS := ((s.heap.update a (Obj.mapSeq fun _ => (#[] : Array Value))).push (seqObj "tuple" vs.toArray 0)).objs.size)
    (Heap.get?_push_size _ rfl) (Heap.get?_push_of_some _ (Heap.get?_push_of_some _ ho1)) (by rw [hkS]; exact Nat.ne_of_gt (Nat.lt_succ_of_lt ha)) hlen h64 turn fun h' tk out c kp n o => h h' tk out c (fun b ob nb q => ?_) n o
  refine kp b ob ?_ nb (Heap.get?_push_of_some _ (Heap.get?_push_of_some _ ((Heap.get?_update_ne _ _ _ _ nb).trans q)))
  rw [hkS]
  exact Nat.ne_of_lt (Nat.lt_succ_of_lt (Heap.lt_size q))
end
section
variable {prog : Program} {w : World} {A : Around} {E : Value → Shared → Prop} {s : Shared} {l : Addr} {vs : List Value} {Q : Value → Shared → Prop}
/-- sorted(l, key=abs) of ints -/
theorem ka_sorted {ns : List Int} (hl : s.heap.IsList l vs.toArray) (hi : IntsAre vs ns) (h64 : vs.length < 64)
    (h : ∀ h' tk out c, (∀ b o, s.heap.get? b = some o → h'.get? b = some o) → h'.get? (s.heap.objs.size + 1) = some (seqObj "list" out c) → KskOut false (ns.map fun i => if i < 0 then -i else i) vs out.toList → Q (.ref (s.heap.objs.size + 1)) { s with heap := h', toks := tk }) :
    wpAny (model prog w) A (call (.builtin "sorted") [.ref l] [(Str.ofString "key", .builtin "abs")]) Q E s := by
  refine call_function_entry_kw kind_sorted plain_sorted entry_sorted (ksk_s1 _ _) ?_
  unfold Builtin.«sorted»
  refine wpAny_bind (m := checkCount "sorted" 1 1 _) (wpAny_pure ?_)
  refine wpAny_bind (collect_list hl ?_ (by rw [sizeLine_eq]; omega))
  refine wpAny_bind (wpAny_newList ?_ (by rw [sizeLine_eq]; omega))
  have hsz : ((s.heap.push (seqObj "list" #[] 0)).update s.heap.objs.size (Obj.mapSeq (· ++ vs.toArray))).objs.size = s.heap.objs.size + 1 := by
    rw [Heap.size_update, size_push']
  have hoL : (((s.heap.push (seqObj "list" #[] 0)).update s.heap.objs.size (Obj.mapSeq (· ++ vs.toArray))).push (seqObj "list" vs.toArray 0)).get? (s.heap.objs.size + 1) = some (seqObj "list" vs.toArray 0) := by
    rw [← hsz]; exact Heap.get?_push_size _ rfl
  have keep : ∀ b o, s.heap.get? b = some o → b ≠ s.heap.objs.size + 1 ∧ (((s.heap.push (seqObj "list" #[] 0)).update s.heap.objs.size (Obj.mapSeq (· ++ vs.toArray))).push (seqObj "list" vs.toArray 0)).get? b = some o := fun b o q => by
    have hlt : b < s.heap.objs.size := Heap.lt_size q
    refine ⟨Nat.ne_of_lt (Nat.lt_succ_of_lt hlt), Heap.get?_push_of_some _ ?_⟩
    rw [Heap.get?_update_ne _ _ _ _ (Nat.ne_of_lt hlt)]
    exact Heap.get?_push_of_some _ q
  show wpAny _ _ _ _ _ { s with heap := ((s.heap.push (seqObj "list" #[] 0)).update s.heap.objs.size (Obj.mapSeq (· ++ vs.toArray))).push (seqObj "list" vs.toArray 0) }
  rw [hsz]
  refine wpAny_bind (wpAny_holding (wpAny_call_entry_kw slot_list_sort ⟨_, hoL, rfl⟩ entry_list_sort ?_ (ksk_l1 _ _)))
  show wpAny (model prog w) A.in1.in1 (Builtin.«list.sort» ⟨[.ref (s.heap.objs.size + 1)], [(Str.ofString "key", .builtin "abs")]⟩) _ _ _
  rw [ksk_t4]
  refine ka_sort (s := { s with heap := ((s.heap.push (seqObj "list" #[] 0)).update s.heap.objs.size (Obj.mapSeq (· ++ vs.toArray))).push (seqObj "list" vs.toArray 0) }) (kz := ns.map fun i => if i < 0 then -i else i) hoL (by rw [List.length_map]; exact hi.length.symm) h64 (fun i v k hv hk hh tk => ?_) fun h' tk out c kp hn ho => ?_
  · rw [List.getElem?_map] at hk
    cases hz : ns[i]? with
    | none => rw [hz] at hk; cases hk
    | some z =>
      rw [hz] at hk
      cases hk
      obtain ⟨t, e⟩ := hi.get i z hz
      rw [hv] at e
      cases e
      exact call_abs_int fun u tk' => ⟨u, tk', rfl, rfl⟩
  · refine ⟨_, rfl, wpAny_pure ⟨_, rfl, h h' tk out c (fun b o q => kp b o (keep b o q).1 (keep b o q).2) hn ho⟩⟩
end
end PyProof.Rows
namespace L2
open PySem PySem.Spec PyProof.Rows
def absZ (i : Int) : Int := if i < 0 then -i else i
theorem ka_outs : ∀ {ns : List Int} {vs : List Value} {ps : List (Int × Value)}, IntsAre vs ns → (∀ p ∈ ps, p ∈ (ns.map absZ).zip vs) → ∃ ns', IntsAre (ps.map Prod.snd) ns' ∧ ns'.map absZ = ps.map Prod.fst
  | ns, vs, [], _, _ => ⟨[], .nil, rfl⟩
  | ns, vs, (k, v) :: ps, hi, h => by
    obtain ⟨ns', h1, h2⟩ := ka_outs (ps := ps) hi fun p hp => h p (List.mem_cons_of_mem _ hp)
    have hm := h (k, v) List.mem_cons_self
    obtain ⟨j, hj⟩ := List.mem_iff_getElem?.mp hm
    rw [List.getElem?_zip_eq_some] at hj
    obtain ⟨hj1, hj2⟩ := hj
    rw [List.getElem?_map] at hj1
    cases hz : ns[j]? with
    | none => rw [hz] at hj1; cases hj1
    | some z =>
      rw [hz] at hj1
      cases hj1
      obtain ⟨t, e⟩ := hi.get j z hz
      rw [hj2] at e
      cases e
      exact ⟨z :: ns', .cons z t h1, by simp [h2]; rfl⟩
theorem ka_out {ns : List Int} {vs out : List Value} (hi : IntsAre vs ns) (h : KskOut false (ns.map absZ) vs out) : ∃ ns', IntsAre out ns' ∧ ns'.Perm ns ∧ ns'.Pairwise (fun i j => absZ i ≤ absZ j) := by
  obtain ⟨ps, h1, rfl, h3⟩ := h
  obtain ⟨ns', h4, h5⟩ := ka_outs (ps := ps) hi fun p hp => h1.mem_iff.mp hp
  refine ⟨ns', h4, ?_, ?_⟩
  · have e1 := h4.nums
    have e2 := hi.nums
    rw [← e1, ← e2]
    have hz : ((ns.map absZ).zip vs).map Prod.snd = vs := List.map_snd_zip (by rw [List.length_map, hi.length]; exact Nat.le_refl _)
    have := h1.map Prod.snd
    rw [hz] at this
    exact this.map _
  · have h6 : (ps.map Prod.fst).Pairwise (· ≤ ·) := by
      rw [List.pairwise_map]
      exact h3.imp fun {a b} h => by simpa using h
    rw [← h5, List.pairwise_map] at h6
    exact h6
section
variable {X : Cx} {e : Expr} {t : TA} {p pa pos kpos : Pos}
theorem pe_sortAbs (hg : Gl X "sorted") (hm : X.mg "sorted" = none) (hga : Gl X "abs") (hma : X.mg "abs" = none) (ha : PA X [e] t)
    (he : backTo pos (starEach (e :: []) X.env) = (false, eval e X.env) :: backTo pos (starEach [] X.env) := by rfl) (hpl : (backTo pos (starEach (e :: []) X.env)).any (·.1) = false := by rfl) :
    PE X (.Call (.Name "sorted" p) [e] [⟨some (Str.ofString "key"), .Name "abs" pa, kpos⟩] pos) (fun σ H Q => t σ H fun vs H1 => ∃ (a : Addr) (ns : List Int), vs = [V.ref a] ∧ SqL X.K H1 a (ns.map V.int) ∧ ns.length < 64 ∧
      ∀ (ns' : List Int) (p : Addr), ns'.Perm ns → ns'.Pairwise (fun i j => absZ i ≤ absZ j) → H1 p = none → Q (.ref p) (upd H1 p (.lst (ns'.map V.int)))) := by
  refine ⟨fun pins s σ H Q I h => ?_⟩
  refine wpAny_Call_Name_kw (ld_blt I hg hm PyProof.Rows.boot_sorted ?_)
  refine PyProof.Rows.callWith_kw (thn (ha.run pos pins s σ H _ I h) fun us s1 ⟨vs, H1, I1, r1, q1⟩ => ?_) he hpl
  show wpAny _ _ (evalAll ((do let v ← eval (.Name "abs" pa) X.env; standAt pos; pure v) :: [])) _ _ s1
  refine wpAny_evalAll_cons (wpAny_bind (ld_blt I1 hga hma PyProof.Rows.boot_abs (wpAny_bind (wpAny_standAt (wpAny_pure (wpAny_evalAll_nil ?_))))))
  obtain ⟨a, ns, rfl, hs, hn, q⟩ := q1
  obtain rfl := Vals.ref1 r1
  obtain ⟨its, rv, hl, hz⟩ := I1.list hs
  have hi := rv.ints
  show wpAny (model X.prog X.w) X.A (call (.builtin "sorted") [.ref a] [(Str.ofString "key", .builtin "abs")]) _ _ s1
  refine ka_sorted hl.isList hi (by rw [hi.length]; exact hn) fun h' tk out c kp no ko => ?_
  obtain ⟨ns', k1, k2, k3⟩ := ka_out hi ko
  have hlen : (ns'.map V.int).length ≤ sizeLine := by
    rw [List.length_map, k2.length_eq]
    rw [List.length_map] at hz
    exact hz
  exact ⟨.ref _, upd H1 (s1.heap.objs.size + 1) (.lst (ns'.map V.int)), I1.laid (t' := tk) kp (Nat.le_succ _) ⟨hlen, out.toList, c, vals_of_ints k1, by rw [Array.toArray_toList]; exact no⟩, rfl, q _ _ k2 k3 (I1.hok.fresh (Nat.le_succ _))⟩
end
end L2

end

section
set_option Elab.async false
set_option linter.all false
set_option maxRecDepth 100000
/-! DL, part N: sorted rows of ints. -/
namespace DL
open PySem L2 RZ

/-! ### the plain functions -/
def insI (k : Int) : List Int → List Int
  | [] => [k]
  | x :: xs => if k ≤ x then k :: x :: xs else x :: insI k xs
def sortI : List Int → List Int
  | [] => []
  | k :: ks => insI k (sortI ks)
def insU (k : Int) : List Int → List Int
  | [] => [k]
  | x :: xs => if k < x then k :: x :: xs else if k = x then x :: xs else x :: insU k xs
/-- sorted, each once -/
def sortU : List Int → List Int
  | [] => []
  | k :: ks => insU k (sortU ks)
def insA (k : Int) : List Int → List Int
  | [] => [k]
  | x :: xs => if absZ k ≤ absZ x then k :: x :: xs else x :: insA k xs
def sortA : List Int → List Int
  | [] => []
  | k :: ks => insA k (sortA ks)
theorem insI_perm (k : Int) : ∀ xs, (insI k xs).Perm (k :: xs)
  | [] => .refl _
  | x :: xs => by
    unfold insI
    split
    · exact .refl _
    · exact ((insI_perm k xs).cons x).trans (.swap k x xs)
theorem sortI_perm : ∀ xs, (sortI xs).Perm xs
  | [] => .refl _
  | k :: ks => (insI_perm k _).trans ((sortI_perm ks).cons k)
theorem insI_pw (k : Int) : ∀ {xs}, xs.Pairwise (· ≤ ·) → (insI k xs).Pairwise (· ≤ ·)
  | [], _ => by simp [insI]
  | x :: xs, h => by
    unfold insI
    rw [List.pairwise_cons] at h
    split
    · rename_i hk
      rw [List.pairwise_cons, List.pairwise_cons]
      refine ⟨fun y hy => ?_, h.1, h.2⟩
      rcases List.mem_cons.mp hy with rfl | hy
      · exact hk
      · exact Int.le_trans hk (h.1 y hy)
    · rw [List.pairwise_cons]
      refine ⟨fun y hy => ?_, insI_pw k h.2⟩
      rcases List.mem_cons.mp ((insI_perm k xs).mem_iff.mp hy) with rfl | hy
      · omega
      · exact h.1 y hy
theorem sortI_pw : ∀ xs, (sortI xs).Pairwise (· ≤ ·)
  | [] => .nil
  | k :: ks => insI_pw k (sortI_pw ks)
theorem insA_perm (k : Int) : ∀ xs, (insA k xs).Perm (k :: xs)
  | [] => .refl _
  | x :: xs => by
    unfold insA
    split
    · exact .refl _
    · exact ((insA_perm k xs).cons x).trans (.swap k x xs)
theorem sortA_perm : ∀ xs, (sortA xs).Perm xs
  | [] => .refl _
  | k :: ks => (insA_perm k _).trans ((sortA_perm ks).cons k)
theorem insA_pw (k : Int) : ∀ {xs}, xs.Pairwise (fun i j => absZ i ≤ absZ j) → (insA k xs).Pairwise (fun i j => absZ i ≤ absZ j)
  | [], _ => by simp [insA]
  | x :: xs, h => by
    unfold insA
    rw [List.pairwise_cons] at h
    split
    · rename_i hk
      rw [List.pairwise_cons, List.pairwise_cons]
      refine ⟨fun y hy => ?_, h.1, h.2⟩
      rcases List.mem_cons.mp hy with rfl | hy
      · exact hk
      · exact Int.le_trans hk (h.1 y hy)
    · rw [List.pairwise_cons]
      refine ⟨fun y hy => ?_, insA_pw k h.2⟩
      rcases List.mem_cons.mp ((insA_perm k xs).mem_iff.mp hy) with rfl | hy
      · omega
      · exact h.1 y hy
theorem sortA_pw : ∀ xs, (sortA xs).Pairwise (fun i j => absZ i ≤ absZ j)
  | [] => .nil
  | k :: ks => insA_pw k (sortA_pw ks)
theorem mem_insU (k j : Int) : ∀ {xs}, j ∈ insU k xs ↔ j = k ∨ j ∈ xs
  | [] => by simp [insU]
  | x :: xs => by
    unfold insU
    split
    · simp
    · split
      · rename_i e; subst e; simp
      · simp only [List.mem_cons, mem_insU k j (xs := xs)]
        constructor
        · rintro (h | h | h)
          · exact .inr (.inl h)
          · exact .inl h
          · exact .inr (.inr h)
        · rintro (h | h | h)
          · exact .inr (.inl h)
          · exact .inl h
          · exact .inr (.inr h)
theorem mem_sortU (j : Int) : ∀ {xs}, j ∈ sortU xs ↔ j ∈ xs
  | [] => by simp [sortU]
  | k :: ks => by simp only [sortU, mem_insU, mem_sortU j (xs := ks), List.mem_cons]
theorem insU_pw (k : Int) : ∀ {xs}, xs.Pairwise (· < ·) → (insU k xs).Pairwise (· < ·)
  | [], _ => by simp [insU]
  | x :: xs, h => by
    unfold insU
    have h' := h
    rw [List.pairwise_cons] at h
    split
    · rename_i hk
      rw [List.pairwise_cons]
      refine ⟨fun y hy => ?_, h'⟩
      rcases List.mem_cons.mp hy with rfl | hy
      · exact hk
      · exact Int.lt_trans hk (h.1 y hy)
    · split
      · exact h'
      · rw [List.pairwise_cons]
        refine ⟨fun y hy => ?_, insU_pw k h.2⟩
        rcases (mem_insU k y).mp hy with rfl | hy
        · omega
        · exact h.1 y hy
theorem sortU_pw : ∀ xs, (sortU xs).Pairwise (· < ·)
  | [] => .nil
  | k :: ks => insU_pw k (sortU_pw ks)
/-- a strictly sorted row is told by its members -/
theorem strict_eq : ∀ {xs ys : List Int}, xs.Pairwise (· < ·) → ys.Pairwise (· < ·) → (∀ k, k ∈ xs ↔ k ∈ ys) → xs = ys
  | [], [], _, _, _ => rfl
  | [], y :: ys, _, _, h => by have := (h y).mpr (by simp); simp at this
  | x :: xs, [], _, _, h => by have := (h x).mp (by simp); simp at this
  | x :: xs, y :: ys, hx, hy, h => by
    rw [List.pairwise_cons] at hx hy
    have e : x = y := by
      have h1 := (h x).mp (by simp)
      have h2 := (h y).mpr (by simp)
      rcases List.mem_cons.mp h1 with h1 | h1
      · exact h1
      · rcases List.mem_cons.mp h2 with h2 | h2
        · exact h2.symm
        · have := hx.1 y h2
          have := hy.1 x h1
          omega
    subst e
    congr 1
    refine strict_eq hx.2 hy.2 fun k => ⟨fun q => ?_, fun q => ?_⟩
    · rcases List.mem_cons.mp ((h k).mp (List.mem_cons_of_mem _ q)) with e | e
      · subst e; have := hx.1 k q; omega
      · exact e
    · rcases List.mem_cons.mp ((h k).mpr (List.mem_cons_of_mem _ q)) with e | e
      · subst e; have := hy.1 k q; omega
      · exact e
/-- a row sorted by an injective key is told by its members -/
theorem key_eq (f : Int → Int) : ∀ {xs ys : List Int}, xs.Perm ys → (xs.map f).Nodup → xs.Pairwise (fun i j => f i ≤ f j) → ys.Pairwise (fun i j => f i ≤ f j) → xs = ys
  | [], [], _, _, _, _ => rfl
  | [], y :: ys, p, _, _, _ => by have := p.length_eq; simp at this
  | x :: xs, [], p, _, _, _ => by have := p.length_eq; simp at this
  | x :: xs, y :: ys, p, n, hx, hy => by
    rw [List.pairwise_cons] at hx hy
    have e : x = y := by
      rcases List.mem_cons.mp (p.mem_iff.mp (List.mem_cons_self (a := x) (l := xs))) with h1 | h1
      · exact h1
      · rcases List.mem_cons.mp (p.mem_iff.mpr (List.mem_cons_self (a := y) (l := ys))) with h2 | h2
        · exact h2.symm
        · have a1 := hx.1 y h2
          have a2 := hy.1 x h1
          have e : f y = f x := by omega
          simp only [List.map_cons, List.nodup_cons] at n
          exact absurd (by rw [← e]; exact List.mem_map_of_mem h2) n.1
    subst e
    congr 1
    simp only [List.map_cons, List.nodup_cons] at n
    exact key_eq f ((List.perm_cons x).mp p) n.2 hx.2 hy.2
theorem le_eq : ∀ {xs ys : List Int}, xs.Perm ys → xs.Pairwise (· ≤ ·) → ys.Pairwise (· ≤ ·) → xs = ys
  | [], [], _, _, _ => rfl
  | [], y :: ys, p, _, _ => by have := p.length_eq; simp at this
  | x :: xs, [], p, _, _ => by have := p.length_eq; simp at this
  | x :: xs, y :: ys, p, hx, hy => by
    rw [List.pairwise_cons] at hx hy
    have e : x = y := by
      rcases List.mem_cons.mp (p.mem_iff.mp (List.mem_cons_self (a := x) (l := xs))) with h1 | h1
      · exact h1
      · rcases List.mem_cons.mp (p.mem_iff.mpr (List.mem_cons_self (a := y) (l := ys))) with h2 | h2
        · exact h2.symm
        · have a1 := hx.1 y h2
          have a2 := hy.1 x h1
          omega
    subst e
    congr 1
    exact le_eq ((List.perm_cons x).mp p) hx.2 hy.2

/-! ### as operations -/
def intsL (ns : List Int) : O := .lst (ns.map D.int)
theorem reps_ints {κ : Kx} {F : Hp} : ∀ (ns : List Int), Reps κ F (ns.map V.int) (ns.map D.int)
  | [] => .nil
  | n :: ns => .cons (.int n) (reps_ints ns)
def sortO : D → Option O
  | .lst ds => match intsD ds with
    | some ns => if ns.length ≤ lim then some (intsL (sortI ns)) else none
    | none => none
  | _ => none
theorem sort_sem {κ : Kx} : Call1 κ (rSortedI κ.K) sortO := by
  intro A F H ρ σ τ υ g o v B w u e Q q
  unfold sortO at e
  split at e
  · rename_i ds ex
    split at e
    · rename_i ns en
      split at e
      · cases e
        obtain ⟨a, vs, rfl, h1, h2⟩ := w.lst_v ex g.fh
        rw [ints_v h2 en] at h1
        refine ⟨a, ns, rfl, SqL.of h1, fun ns' p hp hw hn => q _ _ ?_⟩
        have := le_eq (hp.trans (sortI_perm ns).symm) hw (sortI_pw ns)
        subst this
        exact fin_lst g hn (reps_ints _)
      · cases e
    · cases e
  · cases e
def sortSetO : D → Option O
  | .lst ds => match intsD ds with
    | some ns => if ns.length < 64 then some (intsL (sortU ns)) else none
    | none => none
  | _ => none
def sortAbsO : D → Option O
  | .lst ds => match intsD ds with
    | some ns => if ns.length < 64 ∧ (ns.map absZ).Nodup then some (intsL (sortA ns)) else none
    | none => none
  | _ => none
def mOp1 (f : D → Option O) (m : M (Option Nat × O)) : M O := mBind m fun x => match f x.2.toD with
  | some o => mPure o
  | none => fun _ => .bad
section
variable {X : Cx} {W : WX'} {e st : Expr} {p : Bool} {m : M (Option Nat × O)}
/-- sorted(set(e)) -/
theorem dE_sortSet {e2 : Expr} (h2 : ∀ t, PA X [e2] t → PE X st (tCB (rSortedSet X.w) t)) (h1 : ∀ t, PA X [e] t → PE X e2 (tCB (rSetLI X.K X.w) t)) (he : PE X e (tB (kx X) W p m))
    (hs1 : starEach (e :: []) X.env = (false, eval e X.env) :: starEach [] X.env := by rfl) (hs2 : starEach (e2 :: []) X.env = (false, eval e2 X.env) :: starEach [] X.env := by rfl) : PE X st (tE (kx X) W p (mOp1 sortSetO m)) :=
  pe_imp (h2 _ (pa_cons (h1 _ (pa_cons he pa_nil hs1)) pa_nil hs2)) fun σ H Q ⟨A, F, ρ, τ, υ, g, h⟩ => ⟨A, F, ρ, τ, υ, g, h.bind.imp fun x ρ1 h v B A1 F1 H1 s1 g1 w _ => by
    cases eo : sortSetO x.2.toD with
    | none => rw [eo] at h; exact h.elim
    | some o =>
      rw [eo] at h
      unfold sortSetO at eo
      split at eo
      · rename_i ds ex
        split at eo
        · rename_i ns en
          split at eo
          · rename_i hl
            cases eo
            obtain ⟨a, vs, rfl, h3, h4⟩ := w.lst_v ex g1.fh
            rw [ints_v h4 en] at h3
            refine ⟨a, ns, rfl, SqL.of h3, by omega, fun pp c hp hc => ?_⟩
            obtain ⟨g2, s2⟩ := sJunk (pp := p) g1 (SetO X.w pp (fun j => decide (j ∈ ns)) c) hp
            refine ⟨pp, _, c, rfl, upd_same, by omega, fun ns' pq hw hm _ hn => ?_⟩
            have := strict_eq hw (sortU_pw ns) fun k => by rw [hm k, mem_sortU]; simp
            subst this
            obtain ⟨A3, F3, s3, g3⟩ := fin_lst g2 hn (reps_ints (sortU ns))
            exact h _ A3 F3 _ (((s1.trans s2).trans s3).imp fun z => by rw [z]; rfl) g3
          · cases eo
        · cases eo
      · cases eo⟩
/-- sorted(e, key=abs) -/
theorem dE_sortAbs (h1 : ∀ t, PA X [e] t → PE X st (fun σ H Q => t σ H fun vs H1 => ∃ (a : Addr) (ns : List Int), vs = [V.ref a] ∧ SqL X.K H1 a (ns.map V.int) ∧ ns.length < 64 ∧
      ∀ (ns' : List Int) (p : Addr), ns'.Perm ns → ns'.Pairwise (fun i j => absZ i ≤ absZ j) → H1 p = none → Q (.ref p) (upd H1 p (.lst (ns'.map V.int))))) (he : PE X e (tB (kx X) W p m))
    (hs1 : starEach (e :: []) X.env = (false, eval e X.env) :: starEach [] X.env := by rfl) : PE X st (tE (kx X) W p (mOp1 sortAbsO m)) :=
  pe_imp (h1 _ (pa_cons he pa_nil hs1)) fun σ H Q ⟨A, F, ρ, τ, υ, g, h⟩ => ⟨A, F, ρ, τ, υ, g, h.bind.imp fun x ρ1 h v B A1 F1 H1 s1 g1 w _ => by
    cases eo : sortAbsO x.2.toD with
    | none => rw [eo] at h; exact h.elim
    | some o =>
      rw [eo] at h
      unfold sortAbsO at eo
      split at eo
      · rename_i ds ex
        split at eo
        · rename_i ns en
          split at eo
          · rename_i hl
            cases eo
            obtain ⟨a, vs, rfl, h3, h4⟩ := w.lst_v ex g1.fh
            rw [ints_v h4 en] at h3
            refine ⟨a, ns, rfl, SqL.of h3, hl.1, fun ns' pq hp hw hn => ?_⟩
            have := key_eq absZ (hp.trans (sortA_perm ns).symm) ((hp.map absZ).nodup_iff.mpr hl.2) hw (sortA_pw ns)
            subst this
            obtain ⟨A3, F3, s3, g3⟩ := fin_lst g1 hn (reps_ints (sortA ns))
            exact h _ A3 F3 _ ((s1.trans s3).imp fun z => by rw [z]; rfl) g3
          · cases eo
        · cases eo
      · cases eo⟩
end
end DL

end

section
set_option Elab.async false
set_option linter.all false
set_option maxRecDepth 100000
/-! DL, part O: chains, late subscripts, comprehensions as expressions, calls in short. -/
namespace DL
open PySem L2 RZ PyProof.Rows

section
variable {X : Cx} {κ : Kx} {W : WX'} {a b c e : Expr} {p q s : Bool} {pos : Pos}
theorem dV_no {m : M D} (h : PE X e (tV κ W p m)) : PE X e (tV κ W false m) := pe_imp h fun σ H Q ⟨A, F, ρ, τ, υ, g, h⟩ =>
  ⟨A, F, ρ, τ, υ, g, h.imp fun r ρ' h v A' F' H' s g' => h v A' F' H' (.no s.fr) g'⟩
/-! chains -/
def bO : Option O → M Bool
  | some (.fd (.sh (.bl k))) => mPure k
  | _ => fun _ => .bad
def mChain (f f' : D → D → Option O) (ma mb mc : M D) : M Bool := mBind ma fun x => mBind mb fun y => mBind (bO (f x y)) fun k => if k then mBind mc fun z => bO (f' y z) else mPure false
theorem op2_bl_run {r : R2} {f : D → D → Option O} (hs : Op2 κ r f) {A : Fp} {F H : Hp} {ρ : Env} {σ : L2.St} {τ : List O} {υ : List V} (g : G κ A F H ρ σ τ υ) {x y : V} {d e : D} (rx : Rep κ F x d) (ry : Rep κ F y e) {k : Bool} (h : f d e = some (.sh (.bl k)))
    {Q : VK} (q : ∀ A' F' H', Fr A F H A' F' H' → G κ A' F' H' ρ σ τ υ → Q (.bl k) H') : r x y H Q := by
  refine hs A F H ρ σ τ υ g (.sh d) (.sh e) x y [] [] (.fd (.sh rx)) (.fd (.sh ry)) _ h Q fun v H' ⟨A', F', s', g'⟩ => ?_
  obtain ⟨rfl, A2, g2, s2⟩ := bl_top g'
  exact q A2 F' H' (s'.fr.trans s2.fr) g2
theorem bO_of {A : Fp} {F H : Hp} {σ : L2.St} {τ : List O} {υ : List V} {o : Option O} {ρ : Env} {Q : Bool → Env → Prop} (h : Wp κ W A F H σ τ υ (bO o ρ) Q) : ∃ k, o = some (.sh (.bl k)) ∧ Q k ρ := by
  cases o with
  | none => exact h.elim
  | some o =>
    cases o with
    | fd f =>
      cases f with
      | sh d =>
        cases d with
        | bl k => exact ⟨k, rfl, h⟩
        | _ => exact h.elim
      | ct _ => exact h.elim
    | rc _ _ => exact h.elim
theorem tChain_of {r r' : R2} {f f' : D → D → Option O} (hs : Op2 κ r f) (hs' : Op2 κ r' f') {ma mb mc : M D} {σ : L2.St} {H : Hp} {Q : VK} (h : ∃ A F ρ τ υ, G κ A F H ρ σ τ υ ∧ Wp κ W A F H σ τ υ (mChain f f' ma mb mc ρ) fun k ρ' => ∀ A' F' H', Fr A F H A' F' H' → G κ A' F' H' ρ' σ τ υ → Q (.bl k) H') :
    tChain r r' (tV κ W p ma) (tV κ W q mb) (tV κ W s mc) σ H Q := by
  obtain ⟨A, F, ρ, τ, υ, g, h⟩ := h
  refine ⟨A, F, ρ, τ, υ, g, h.bind.imp fun x ρ1 h v1 A1 F1 H1 s1 g1 r1 => ⟨A1, F1, ρ1, τ, υ, g1, (h.step s1.fr).bind.imp fun y ρ2 h v2 A2 F2 H2 s2 g2 r2 => ?_⟩⟩
  obtain ⟨k, ef, h⟩ := bO_of (h.step s2.fr).bind
  refine op2_bl_run hs g2 (r1.mono s2.fr.grow) r2 ef fun A3 F3 H3 f3 g3 => ⟨k, rfl, ?_⟩
  cases k with
  | false =>
    rw [if_neg Bool.false_ne_true]
    exact h A3 F3 H3 ((s1.fr.trans s2.fr).trans f3) g3
  | true =>
    rw [if_pos rfl]
    have h : Wp κ W A2 F2 H2 σ τ υ ((mBind mc fun z => bO (f' y z)) ρ2) _ := h
    refine ⟨A3, F3, ρ2, τ, υ, g3, (h.step f3).bind.imp fun z ρ4 h v4 A4 F4 H4 s4 g4 r4 => ?_⟩
    obtain ⟨j, ef', h⟩ := bO_of h
    exact op2_bl_run hs' g4 (r2.mono (f3.grow.trans s4.fr.grow)) r4 ef' fun A5 F5 H5 f5 g5 => h A5 F5 H5 ((((s1.fr.trans s2.fr).trans f3).trans s4.fr).trans f5) g5
theorem dV_chain {op op' : CmpOp} {r r' : R2} {f f' : D → D → Option O} {ma mb mc : M D} (ho : OpR X (compareOp op) r) (hs : Op2 κ r f) (ho' : OpR X (compareOp op') r') (hs' : Op2 κ r' f') (ha : PE X a (tV κ W p ma)) (hb : PE X b (tV κ W q mb)) (hc : PE X c (tV κ W s mc))
    (hm : lastMarks [op, op'] [b, c] = false := by with_unfolding_all rfl) : PE X (.Compare a [op, op'] [b, c] pos) (tV κ W false (mMap D.bl (mChain f f' ma mb mc))) :=
  pe_imp (pe_chain ho ho' ha hb hc hm) fun σ H Q ⟨A, F, ρ, τ, υ, g, h⟩ => tChain_of hs hs' ⟨A, F, ρ, τ, υ, g, h.map.imp fun k ρ' h A' F' H' f' g' => h _ A' F' H' (.no f') g' (.bl k)⟩
theorem dT_chain {op op' : CmpOp} {r r' : R2} {f f' : D → D → Option O} {ma mb mc : M D} (ho : OpR X (compareOp op) r) (hs : Op2 κ r f) (ho' : OpR X (compareOp op') r') (hs' : Op2 κ r' f') (ha : PE X a (tV κ W p ma)) (hb : PE X b (tV κ W q mb)) (hc : PE X c (tV κ W s mc))
    (hm : lastMarks [op, op'] [b, c] = false := by with_unfolding_all rfl) : PT X (.Compare a [op, op'] [b, c] pos) (tT κ W false (mChain f f' ma mb mc)) :=
  pt_imp (pt_chain ho ho' ha hb hc hm) fun σ H Q ⟨A, F, ρ, τ, υ, g, h⟩ => tChain_of hs hs' ⟨A, F, ρ, τ, υ, g, h.imp fun k ρ' h A' F' H' f' g' => ⟨k, rfl, h A' F' H' (.no f') g'⟩⟩
end

/-! ### a slot's item, the slot read late -/
def mSubN (i : Nat) (mb : M D) : M (Option Nat × O) := fun ρ => match ρ[i]? with
  | some (some _) => mBind mb (fun k ρ' => match ρ'[i]? with
    | some (some o) => match itemOf (some i, o) k with
      | some y => .ok y ρ'
      | none => .bad
    | _ => .bad) ρ
  | _ => .bad
def nowD (mb : M D) (i : Nat) (ρ : Env) : Bool := match mb ρ with
  | .ok _ ρ' => match ρ'[i]? with
    | some (some o) => isDict o
    | _ => false
  | _ => false
section
variable {X : Cx} {W : WX'} {b : Expr} {p pb : Bool} {mb : M D} {pos px : Pos} {x : Str} {i : Nat}
theorem tSubN_of {κ : Kx} {r : R2} (P : O → Prop) {σ : L2.St} {H : Hp} {Q : VK}
    (hr : ∀ (A : Fp) (F H : Hp) (ρ : Env) (σ : L2.St) (τ : List O) (υ : List V), G κ A F H ρ σ τ υ → ∀ (z : Option Nat) (o : O) (v : V) (B : List Addr), Own κ F H o v B → Src ρ A z B → P o → ∀ (y : V) (k : D), Rep κ H y k → ∀ x, itemOf (z, o) k = some x → ∀ Q : VK, (∀ u S, Own κ F H x.2 u S → Src ρ A x.1 S → Q u H) → r v y H Q)
    {A : Fp} {F : Hp} {ρ : Env} {τ : List O} {υ : List V} (g : G κ A F H ρ σ τ υ) (hP : ∀ k ρ1 o, mb ρ = .ok k ρ1 → ρ1[i]? = some (some o) → P o)
    (h : Wp κ W A F H σ τ υ (mSubN i mb ρ) fun r ρ' => ∀ v B A' F' H', Stp false ρ A F H ρ' A' F' H' → G κ A' F' H' ρ' σ τ υ → Own κ F' H' r.2 v B → Src ρ' A' r.1 B → Q v H') : tOp r (tVar i) (tV κ W pb mb) σ H Q := by
  unfold mSubN at h
  split at h
  · rename_i o0 e0
    obtain ⟨v1, h1, w1⟩ := g.slot e0
    refine ⟨v1, h1, A, F, ρ, τ, υ, g, ?_⟩
    have h2 := h.bind
    cases e1 : mb ρ with
    | bad => rw [e1] at h2; exact h2.elim
    | exc d ρ1 => rw [e1] at h2; exact h2
    | ok k ρ1 =>
      rw [e1] at h2
      intro v2 A2 F2 H2 s2 g2 r2
      have h2 : Wp κ W A F H σ τ υ (match ρ1[i]? with
        | some (some o) => match itemOf (some i, o) k with
          | some y => .ok y ρ1
          | none => .bad
        | _ => .bad) _ := h2
      split at h2
      · rename_i o eo
        obtain ⟨v1', h1', w1'⟩ := g2.slot eo
        rw [h1] at h1'; cases h1'
        cases e3 : itemOf (some i, o) k with
        | none => rw [e3] at h2; exact h2.elim
        | some y =>
          rw [e3] at h2
          exact hr A2 F2 H2 ρ1 σ τ υ g2 (some i) o v1 _ w1' (fun b hb => ⟨⟨o, eo, by
            cases q : isSh o with
            | false => rfl
            | true =>
              obtain ⟨d, rfl, _⟩ := isSh_v q w1'
              rw [w1'.sh_nil] at hb
              simp at hb⟩, hb⟩) (hP k ρ1 o e1 eo) v2 k (r2.mono g2.fh) y e3 Q fun u S w3 s3 => h2 u S A2 F2 H2 (.no s2.fr) g2 w3 s3
      · exact h2.elim
  · exact h.elim
theorem dB_subN (hu : X.A.units + 1 < cLine) (ha : PE X (.Name x px) (tVar i)) (hb : PE X b (tV (kx X) W pb mb)) (hs : PlainIx b) (hs' : NoSl b) : PE X (.Subscript (.Name x px) b pos) (tB (kx X) W false (mSubN i mb)) :=
  pe_imp (pe_either (pe_ix ix_seq ha hb hs) (pe_dget hu ha hb hs')) fun σ H Q ⟨A, F, ρ, τ, υ, g, h⟩ => by
    cases hd : nowD mb i ρ with
    | false =>
      refine .inl (tSubN_of (fun o => isDict o = false) (fun A F H ρ σ τ υ g z o v B w sr hp y k ry x e Q q => item_of g w ry hp e q) g (fun k ρ1 o e1 eo => ?_) h)
      unfold nowD at hd
      rw [e1] at hd
      simp only [eo] at hd
      exact hd
    | true =>
      refine .inr (tSubN_of (r := fun x y H Q => ∃ a v, x = .ref a ∧ DGet H a y (some v) ∧ Q v H) (fun o => isDict o = true) (fun A F H ρ σ τ υ g z o v B w sr hp y k ry x e Q q => by
        obtain ⟨a, u, S, h1, h2, h3, h4⟩ := dget_of g w sr ry hp e
        exact ⟨a, u, h1, h2, q u S h3 h4⟩) g (fun k ρ1 o e1 eo => ?_) h)
      unfold nowD at hd
      rw [e1] at hd
      simp only [eo] at hd
      exact hd
end

/-! ### comprehensions -/
section
variable {X : Cx} {W W' : WX'} {elt tg iter : Expr} {ifs : List Expr} {scope : Scope} {own : List (Str × Nat)} {pos : Pos} {p pt pe : Bool} {ts mu : List Nat} {src : M (List D)} {b : Bn} {t : M Bool} {m : M D}
theorem dE_lc (hc : X.calm = true) (hN : X.N.Nodup) (ok : BlkOk X.N X.env.scope scope own) (hi : PI X tg iter (tIt (kx X) W p src))
    (hg : ∀ (s : Shared) (H : Hp) (C : Addr) (cl : List (Str × Addr)) (fp : List Addr), PG (X.blk s H scope (compEnvC scope cl C X.env) fp) tg (tBn (kx X) ts b))
    (ht : ∀ (s : Shared) (H : Hp) (C : Addr) (cl : List (Str × Addr)) (fp : List Addr), PTs (X.blk s H scope (compEnvC scope cl C X.env) fp) ifs (tT (kx X) W' pt t))
    (he : ∀ (s : Shared) (H : Hp) (C : Addr) (cl : List (Str × Addr)) (fp : List Addr), PE (X.blk s H scope (compEnvC scope cl C X.env) fp) elt (tV (kx X) W' pe m))
    (hs : ∀ i ∈ ts, i ∈ own.map (·.2) := by decide) (hf : ∀ x, foldedSetIterable iter X.env x = pure x := by intro _; rfl) :
    PE X (.ListComp elt [⟨tg, iter, ifs, 0⟩] scope pos) (tE (kx X) W false (mLc (own.map (·.2)) src b t m)) :=
  pe_imp (pe_lc hc hN hi ok hg ht he hf) fun _ _ _ h => tLc_of hs (fun _ _ _ z => z) h
theorem dS_setLc {i : Nat} {y : Str} {py spos : Pos} (hc : X.calm = true) (hN : X.N.Nodup) (hy : X.N[i]? = some y) (hyl : X.env.scope.names.lookup y = some .local)
    (hsw : swapsWith (.ListComp elt [⟨tg, iter, ifs, 0⟩] scope pos) (some (.Name y py)) spos.line X.env = pure true) (ok : BlkOk X.N X.env.scope scope own) (hi : PI X tg iter (tIt (kx X) W p src))
    (hg : ∀ (s : Shared) (H : Hp) (C : Addr) (cl : List (Str × Addr)) (fp : List Addr), PG (X.blk s H scope (compEnvC scope cl C X.env) fp) tg (tBn (kx X) ts b))
    (ht : ∀ (s : Shared) (H : Hp) (C : Addr) (cl : List (Str × Addr)) (fp : List Addr), PTs (X.blk s H scope (compEnvC scope cl C X.env) fp) ifs (tT (kx X) W' pt t))
    (he : ∀ (s : Shared) (H : Hp) (C : Addr) (cl : List (Str × Addr)) (fp : List Addr), PE (X.blk s H scope (compEnvC scope cl C X.env) fp) elt (tV (kx X) W' pe m))
    (hm : i ∉ mu) (hs : ∀ i ∈ ts, i ∈ own.map (·.2) := by decide) (hf : ∀ x, foldedSetIterable iter X.env x = pure x := by intro _; rfl) :
    PS X (.Assign [.Name y py] (.ListComp elt [⟨tg, iter, ifs, 0⟩] scope pos) spos) (tS (kx X) W mu (sAsg i (mLc (own.map (·.2)) src b t m))) :=
  ps_imp (ps_setLc hc hN hy hyl hsw hi ok hg ht he hf) fun E σ H ⟨A, F, ρ, g, h⟩ => tLc_of hs (fun _ _ _ z => z) ⟨A, F, ρ, [], [], g, h.bind.imp fun r ρ1 h v A1 F1 H1 s1 g1 => by
    obtain ⟨g2, f2⟩ := G.assign (τ := []) (υ := []) (i := i) g1
    exact h _ _ F1 H1 (s1.fr.trans f2) g2 fun j hj => List.getElem?_set_ne (fun z => hm (by rw [z]; exact hj))⟩
end

/-! ### the law's own head -/
/-- law's promise: a row of at most 63 ints is handed in, True comes out -/
def spLaw (K : PySem.W.Frag) : Sp := fun vs H Q _ => ∃ (a : Addr) (ns : List Int), vs = [.ref a] ∧ SqL K H a (ns.map V.int) ∧ ns.length ≤ 63 ∧ ∀ H', Q (.bl true) H'
theorem fn_law {P : Program} {w : World} {K : PySem.W.Frag} {mg : Str → Option Value} {base : Heap} {CX : CXT} {k : Nat} {f : Addr} {fd : FuncData} {ps : List Str} {sem : Sem} (F : FnOk P w K mg base CX k f fd ps (spD ⟨K, mg⟩ 1 sem))
    (h : ∀ ns : List Int, ns.length ≤ 63 → ∃ fs, sem [.sh (.fz (ns.map D.int))] = .ok (.sh (.bl true)) fs) : FnOk P w K mg base CX k f fd ps (spLaw K) := by
  refine F.imp fun vs H Q E ⟨a, ns, e, hs, hl, q⟩ => ?_
  subst e
  obtain ⟨fs, ef⟩ := h ns hl
  refine ⟨rfl, fun _ => [], H, [.sh (.fz (ns.map D.int))], ⟨rfl, rfl, fun x o eo => ?_, fun _ => List.nodup_nil, fun _ _ _ _ hx => by simp at hx, fun _ _ hx => by simp at hx, fun _ _ hx => by simp at hx, fun _ _ e => e⟩, ?_⟩
  · cases x with
    | t k => simp [atO] at eo
    | s i =>
      cases i with
      | zero =>
        simp [atO] at eo
        subst eo
        exact ⟨.ref a, by simp [atV], .fd (.sh (.fz hs (reps_ints ns)))⟩
      | succ i => simp [atO] at eo
  · rw [ef]
    intro v A' F' H' f' g'
    have g'' : G ⟨K, mg⟩ A' F' H' fs ([V.ref a].map some) ([] ++ [.sh (.bl true)]) ([] ++ [v]) := g'
    obtain ⟨_, w, _⟩ := g''.pop
    rw [w.sh_v.bl_v]
    exact q H'
end DL

end

section
set_option Elab.async false
set_option linter.all false
set_option maxRecDepth 100000
/-! DL, part P: what the printed walks use. -/
namespace DL
open PySem L2 RZ PyProof.Rows

theorem hu64 {A : Around} {k : Nat} (hr : Room k A) : A.units + 64 < cLine := by have := hr.un; omega
/-- a def that can be called by its name -/
structure Cal (P : Program) (w : World) (K : PySem.W.Frag) (mg : Str → Option Value) (base : Heap) (k : Nat) (x : Str) (ps : List Str) (sem : Sem) : Prop where
  ex : ∃ (f : Addr) (fd : FuncData), FnOk P w K mg base CX0 k f fd ps (spD ⟨K, mg⟩ ps.length sem) ∧ mg x = some (.ref f) ∧ PySem.W.keepIn K (.ref f) = true ∧ Binds K fd ps []
theorem fn_bad {P : Program} {w : World} {K : PySem.W.Frag} {mg : Str → Option Value} {base : Heap} {k : Nat} {f : Addr} {fd : FuncData} {ps : List Str} : FnOk P w K mg base CX0 k f fd ps (spD ⟨K, mg⟩ ps.length fun _ => .bad) :=
  ⟨fun vs H Q E h => h.1, fun A outer s H args us vs Q E hr he hb hv hs => by obtain ⟨_, _, _, _, _, z⟩ := hs; exact z.elim⟩
theorem de_callC {X : Cx} {W : WX'} {x : Str} {p pos : Pos} {e : Expr} {es : List Expr} {j k : Nat} {ps : List Str} {sem : Sem} {as : List (Option Nat)} {ms : M (List O)} (C : Cal X.prog X.w X.K X.mg X.base j x ps sem) (hr : Room k X.A) (hjk : j ≤ k) (hg : Gl X x) (ha : PA X (e :: es) (tAs (kx X) W as ms))
    (hn : as.length = ps.length := by rfl) (nd : (as.filterMap id).Nodup := by decide) (hdb : (x == ("__debug__" : Str)) = false := by decide) (he : starEach (e :: es) X.env = (false, eval e X.env) :: starEach es X.env := by rfl) (hpl : (backTo pos (starEach es X.env)).any (·.1) = false := by rfl) :
    PE X (.Call (.Name x p) (e :: es) [] pos) (tE (kx X) W false (mCallF sem as ms)) := by
  obtain ⟨f, fd, F, m, kp, b⟩ := C.ex
  exact de_call (fun t h => pe_call (F.mono hjk) hr hg m kp b .nil pass0 h hdb he hpl) ha hn nd
section
variable {X : Cx} {κ : Kx} {W : WX'} {mu : List Nat} {p : Bool}
theorem dBs_no {es : List Expr} {m : M (List (Option Nat × O))} (h : PA X es (tBs κ W p m)) : PA X es (tBs κ W false m) := pa_imp h fun σ H Q ⟨A, F, ρ, τ, υ, g, h⟩ =>
  ⟨A, F, ρ, τ, υ, g, h.imp fun r ρ' h v A' F' H' s g' => h v A' F' H' (.no s.fr) g'⟩
/-- a, b = x, y by way of a pair -/
theorem dS_parA {i j : Nat} {st : Stmt} {tg : Expr} {es : List Expr} {kk : Nat} {pt : Pos} {ms : M (List O)} (h : ∀ te g, PE X (.Tuple es kk pt) te → PG X tg g → PS X st (tAsg te g)) (ha : PA X es (tEs κ W p ms)) (hg : PG X tg (gTup X.K 2 (gCons (gName i) (gCons (gName j) gNil)))) (hij : i ≠ j) (hi : i ∉ mu) (hj : j ∉ mu) :
    PS X st (tS κ W mu (sPar i j ms)) :=
  ps_imp (h _ _ (pe_tup ha) hg) fun E σ H ⟨A, F, ρ, g, h⟩ => ⟨A, F, ρ, [], [], g, h.bind.imp fun rs ρ1 h vs A1 F1 H1 s1 g1 l1 => by
    split at h
    · rename_i r s
      match vs, l1 with
      | [v, w], _ =>
        refine ⟨by show 2 ≤ sizeLine; decide, fun a ha => ?_⟩
        obtain ⟨g1', s1'⟩ := sJunk (pp := false) g1 (.tup [v, w]) ha
        refine ⟨a, [v, w], rfl, .inl (.inl upd_same), rfl, v, [w], rfl, w, [], rfl, rfl, ?_⟩
        obtain ⟨g2, f2⟩ := G.assign (τ := [r]) (υ := [v]) (r := s) (v := w) (i := j) g1'
        obtain ⟨g3, f3⟩ := G.assign (τ := []) (υ := []) (i := i) g2
        have e1 : (List.set σ j (some w)).set i (some v) = (List.set σ i (some v)).set j (some w) := List.set_comm _ _ (Ne.symm hij)
        rw [e1] at g3
        refine h _ _ F1 _ (((s1.fr.trans s1'.fr).trans f2).trans f3) g3 fun k hk => ?_
        rw [List.getElem?_set_ne (fun z => hj (by rw [z]; exact hk)), List.getElem?_set_ne (fun z => hi (by rw [z]; exact hk))]
    · exact h.elim⟩
end
end DL

end

section
set_option Elab.async false
set_option linter.all false
set_option maxRecDepth 100000
/-! DL, part Q: denotations evaluated; loops by an invariant; the pen. -/
namespace DL
open PySem L2 RZ PyProof.Rows

/-! ### evaluation -/
section
variable {α β : Type}
theorem mBind_ok {m : M α} {k : α → M β} {ρ ρ' : Env} {a : α} (h : m ρ = .ok a ρ') : mBind m k ρ = k a ρ' := by unfold mBind; rw [h]
theorem sBind_ok {m : M α} {k : α → MS} {ρ ρ' : Env} {a : α} (h : m ρ = .ok a ρ') : sBind m k ρ = k a ρ' := by unfold sBind; rw [h]
theorem mMap_ok {m : M α} {f : α → β} {ρ ρ' : Env} {a : α} (h : m ρ = .ok a ρ') : mMap f m ρ = .ok (f a) ρ' := by unfold mMap; rw [h]
theorem sSeq_next {m n : MS} {ρ ρ' : Env} (h : m ρ = .next ρ') : sSeq m n ρ = n ρ' := by unfold sSeq; rw [h]
theorem sSeq_ret {m n : MS} {ρ ρ' : Env} {r : O} (h : m ρ = .ret r ρ') : sSeq m n ρ = .ret r ρ' := by unfold sSeq; rw [h]
/-- for, by an invariant: P of the loop's end -/
theorem forGo_by {b : Bn} {body : MS} {P : OutS → Prop} (I : Nat → Env → Prop) : ∀ (ds : List D) (k : Nat) (ρ : Env), I k ρ →
    (∀ i d ρ, ds[i]? = some d → I (k + i) ρ → ∃ ρ1, b d ρ = some ρ1 ∧ ((∃ ρ2, (body ρ1 = .next ρ2 ∨ body ρ1 = .cont ρ2) ∧ I (k + i + 1) ρ2) ∨ (∃ ρ2, body ρ1 = .brk ρ2 ∧ P (.next ρ2)) ∨ ∃ r ρ2, body ρ1 = .ret r ρ2 ∧ P (.ret r ρ2))) →
    (∀ ρ, I (k + ds.length) ρ → P (.next ρ)) → P (forGo b body ds ρ)
  | [], k, ρ, h, _, fin => fin ρ (by simpa using h)
  | d :: ds, k, ρ, h, step, fin => by
    obtain ⟨ρ1, hb, hs⟩ := step 0 d ρ (by simp) (by simpa using h)
    rw [forGo_cons, hb]
    simp only
    rcases hs with ⟨ρ2, hn, hi⟩ | ⟨ρ2, hn, hp⟩ | ⟨r, ρ2, hn, hp⟩
    · have hi : I (k + 1) ρ2 := by simpa using hi
      have go : P (forGo b body ds ρ2) := forGo_by I ds (k + 1) ρ2 hi (fun i d ρ hd h => by
        have := step (i + 1) d ρ (by simpa using hd) (by rw [show k + (i + 1) = k + 1 + i by omega]; exact h)
        rw [show k + (i + 1) + 1 = k + 1 + i + 1 by omega] at this
        exact this) fun ρ h => fin ρ (by rw [show k + (d :: ds).length = k + 1 + ds.length by simp; omega]; exact h)
      rcases hn with hn | hn <;> rw [hn] <;> exact go
    · rw [hn]; exact hp
    · rw [hn]; exact hp
/-- a comprehension, by an invariant over the turns and the values so far -/
theorem lcGo_by {vs : List Nat} {b : Bn} {t : M Bool} {e : M D} {P : List D → Env → Prop} (I : Nat → List D → Env → Prop) : ∀ (ds : List D) (k : Nat) (acc : List D) (ρ : Env), I k acc ρ →
    (∀ i d acc ρ, ds[i]? = some d → I (k + i) acc ρ → ∃ ρ1 c ρ2, b d ρ = some ρ1 ∧ t ρ1 = .ok c ρ2 ∧ (c = false → I (k + i + 1) acc (wipeE ρ2 vs)) ∧ (c = true → acc.length < lim ∧ ∃ y ρ3, e ρ2 = .ok y ρ3 ∧ I (k + i + 1) (acc ++ [y]) (wipeE ρ3 vs))) →
    (∀ acc ρ, I (k + ds.length) acc ρ → P acc ρ) → ∃ out ρ', lcGo vs b t e ds acc ρ = .ok out ρ' ∧ P out ρ'
  | [], k, acc, ρ, h, _, fin => ⟨acc, ρ, rfl, fin acc ρ (by simpa using h)⟩
  | d :: ds, k, acc, ρ, h, step, fin => by
    obtain ⟨ρ1, c, ρ2, hb, ht, h0, h1⟩ := step 0 d acc ρ (by simp) (by simpa using h)
    have rest : ∀ acc' ρ', I (k + 1) acc' ρ' → ∃ out ρ'', lcGo vs b t e ds acc' ρ' = .ok out ρ'' ∧ P out ρ'' := fun acc' ρ' h' =>
      lcGo_by I ds (k + 1) acc' ρ' h' (fun i d acc ρ hd h => by
        have := step (i + 1) d acc ρ (by simpa using hd) (by rw [show k + (i + 1) = k + 1 + i by omega]; exact h)
        rw [show k + (i + 1) + 1 = k + 1 + i + 1 by omega] at this
        exact this) fun acc ρ h => fin acc ρ (by rw [show k + (d :: ds).length = k + 1 + ds.length by simp; omega]; exact h)
    unfold lcGo
    rw [hb]
    simp only
    rw [ht]
    cases c with
    | false =>
      simp only
      exact rest acc _ (by simpa using h0 rfl)
    | true =>
      obtain ⟨hl, y, ρ3, he, hi⟩ := h1 rfl
      simp only
      rw [he]
      simp only
      rw [if_pos hl]
      exact rest _ _ (by simpa using hi)
end
/-! ### statements from the left -/
section
variable {P : OutS → Prop} {m n : MS} {t : M Bool} {ρ ρ' : Env} {b : Bool} {r : O}
theorem w_seq (h : m ρ = .next ρ') (k : P (n ρ')) : P (sSeq m n ρ) := by rw [sSeq_next h]; exact k
theorem w_seqR (h : m ρ = .ret r ρ') (k : P (.ret r ρ')) : P (sSeq m n ρ) := by rw [sSeq_ret h]; exact k
/-- what a first statement's end is to be -/
def thenS (n : MS) (P : OutS → Prop) : OutS → Prop
  | .next ρ => P (n ρ)
  | o => P o
theorem w_seqP (h : thenS n P (m ρ)) : P (sSeq m n ρ) := by
  unfold sSeq
  cases e : m ρ <;> rw [e] at h <;> exact h
theorem w_ifT (h : t ρ = .ok true ρ') (k : P (m ρ')) : P (sIf t m n ρ) := by unfold sIf; rw [sBind_ok h]; exact k
theorem w_ifF (h : t ρ = .ok false ρ') (k : P (n ρ')) : P (sIf t m n ρ) := by unfold sIf; rw [sBind_ok h]; exact k
theorem w_next (k : P (.next ρ)) : P (sNext ρ) := k
theorem w_for {src : M (List D)} {bn : Bn} {body : MS} {ds : List D} (I : Nat → Env → Prop) (h : src ρ = .ok ds ρ') (h0 : I 0 ρ')
    (step : ∀ i d ρ, ds[i]? = some d → I i ρ → ∃ ρ1, bn d ρ = some ρ1 ∧ ((∃ ρ2, (body ρ1 = .next ρ2 ∨ body ρ1 = .cont ρ2) ∧ I (i + 1) ρ2) ∨ (∃ ρ2, body ρ1 = .brk ρ2 ∧ P (.next ρ2)) ∨ ∃ r ρ2, body ρ1 = .ret r ρ2 ∧ P (.ret r ρ2)))
    (fin : ∀ ρ, I ds.length ρ → P (.next ρ)) : P (sFor src bn body ρ) := by
  unfold sFor
  rw [sBind_ok h]
  exact forGo_by I ds 0 ρ' h0 (fun i d ρ hd hi => by
    have := step i d ρ hd (by simpa using hi)
    simpa using this) fun ρ hi => fin ρ (by simpa using hi)
theorem m_lc {vs : List Nat} {src : M (List D)} {bn : Bn} {t : M Bool} {e : M D} {ds : List D} {Q : List D → Env → Prop} (I : Nat → List D → Env → Prop) (h : src ρ = .ok ds ρ') (h0 : I 0 [] (wipeE ρ' vs))
    (step : ∀ i d acc ρ, ds[i]? = some d → I i acc ρ → ∃ ρ1 c ρ2, bn d ρ = some ρ1 ∧ t ρ1 = .ok c ρ2 ∧ (c = false → I (i + 1) acc (wipeE ρ2 vs)) ∧ (c = true → acc.length < lim ∧ ∃ y ρ3, e ρ2 = .ok y ρ3 ∧ I (i + 1) (acc ++ [y]) (wipeE ρ3 vs)))
    (fin : ∀ acc ρ2, I ds.length acc ρ2 → Q acc (backE ρ' ρ2 vs)) : ∃ acc ρ2, mLc vs src bn t e ρ = .ok (.lst acc) ρ2 ∧ Q acc ρ2 := by
  unfold mLc
  rw [mBind_ok h]
  obtain ⟨out, ρ2, e1, q⟩ := lcGo_by (vs := vs) (b := bn) (t := t) (e := e) (P := fun acc ρ2 => Q acc (backE ρ' ρ2 vs)) I ds 0 [] (wipeE ρ' vs) h0 (fun i d acc ρ hd hi => by
    have := step i d acc ρ hd (by simpa using hi)
    simpa using this) fun acc ρ hi => fin acc ρ (by simpa using hi)
  exact ⟨out, _, by rw [e1], q⟩
/-- goes on, in a state like that -/
def NextI (I : Env → Prop) (o : OutS) : Prop := ∃ ρ, o = .next ρ ∧ I ρ
/-- tells a value like that -/
def RetI (Q : O → Env → Prop) (o : OutS) : Prop := ∃ r ρ, o = .ret r ρ ∧ Q r ρ
theorem nextI {I : Env → Prop} {ρ : Env} (h : I ρ) : NextI I (.next ρ) := ⟨ρ, rfl, h⟩
theorem retI {Q : O → Env → Prop} {r : O} {ρ : Env} (h : Q r ρ) : RetI Q (.ret r ρ) := ⟨r, ρ, rfl, h⟩
theorem w_seqI (I : Env → Prop) (h : NextI I (m ρ)) (k : ∀ ρ', I ρ' → P (n ρ')) : P (sSeq m n ρ) := by
  obtain ⟨ρ', e, i⟩ := h
  exact w_seq e (k ρ' i)
/-- a first part that may tell the end -/
theorem w_seqRI {Q : O → Env → Prop} (I : Env → Prop) (h : RetI Q (m ρ) ∨ NextI I (m ρ)) (k : ∀ ρ', I ρ' → RetI Q (n ρ')) : RetI Q (sSeq m n ρ) := by
  rcases h with ⟨r, ρ', e, q⟩ | ⟨ρ', e, i⟩
  · exact w_seqR e (retI q)
  · exact w_seq e (k ρ' i)
theorem w_ret {Q : O → Env → Prop} {e : M O} {r : O} (h : e ρ = .ok r ρ') (q : Q r ρ') : RetI Q (sRet e ρ) := ⟨r, ρ', by unfold sRet; rw [sBind_ok h], q⟩
theorem w_asg {i : Nat} {e : M O} {r : O} (h : e ρ = .ok r ρ') (k : P (.next (ρ'.set i (some r)))) : P (sAsg i e ρ) := by unfold sAsg; rw [sBind_ok h]; exact k
theorem sem_of {N n : Nat} {mu : List Nat} {m : MS} {os : List O} {Q : O → Env → Prop} (hl : os.length = n) (h : RetI Q (m (os.map some ++ List.replicate (N - n) none))) : ∃ r ρ', semOf N n mu m os = .ok r (keepE mu n ρ') ∧ Q r ρ' := by
  obtain ⟨r, ρ', e, q⟩ := h
  refine ⟨r, ρ', ?_, q⟩
  unfold semOf
  rw [if_pos hl, e]
theorem sem_ret {N n : Nat} {mu : List Nat} {m : MS} {os : List O} {r : O} {ρ' : Env} (hl : os.length = n) (h : m (os.map some ++ List.replicate (N - n) none) = .ret r ρ') : semOf N n mu m os = .ok r (keepE mu n ρ') := by
  unfold semOf
  rw [if_pos hl, h]
end
end DL

end

section
set_option Elab.async false
set_option linter.all false
set_option maxRecDepth 100000
/-! DL, part R: defs that every law has: their denotations (as the printer prints them), what they tell. -/
namespace DL
open PySem L2 RZ PyProof.Rows
def d__law_pen : MS :=
  (sSeq (sAsg 1 (mMap O.sh (mPure (.int 0))))
  (sSeq (sFor (mBind (mNameV 0) seqD) (bName 2)
  (sAsg 1 (mOpS (liftI modI) (mCall (f1 intD) (mConsB true (mMap (fun o => ((none : Option Nat), o)) (mOpS addD (mOpN 1 (liftI mulI) (mMap (fun d => ((none : Option Nat), O.sh d)) (mPure (.int 47)))) (mNameB 2))) (mPure []))) (mMap (fun d => ((none : Option Nat), O.sh d)) (mPure (.int 1000000007))))))
  (sRet (mDisp (mConsP (mPure (.str "cells")) (mMap O.toD (mCall (f1 listD) (mConsB true (mNameB 0) (mPure [])))) (mConsP (mPure (.str "at")) (mPure (.int 0)) (mConsP (mPure (.str "digits")) (mPure (.int 0)) (mConsP (mPure (.str "count")) (mPure (.int 0)) (mConsP (mPure (.str "fold")) (mNameV 1) (mPure []))))))))))
def sem__law_pen : Sem := semOf 3 1 [0] d__law_pen
def d__law_draw : MS :=
  (sSeq (sPut 0 (mPure (.str "count")) (mMap O.toD (mOpS addD (mMap O.sh (mBind (mSubN 0 (mPure (.str "count"))) asSh)) (mMap (fun d => ((none : Option Nat), O.sh d)) (mPure (.int 1))))))
  (sSeq (sIf (mAndT (mBl (mOpS eqO (mMap O.sh (mBind (mSubN 0 (mPure (.str "digits"))) asSh)) (mMap (fun d => ((none : Option Nat), O.sh d)) (mPure (.int 0))))) (mBl (mOpS (liftB fun i j => decide (i < j)) (mMap O.sh (mBind (mSubN 0 (mPure (.str "at"))) asSh)) (mMap (fun o => ((none : Option Nat), o)) (mCall (f1 lenD) (mConsB true (mSubN 0 (mPure (.str "cells"))) (mPure []))))))) (sSeq (sAsg 2 (mMap O.sh (mBind (mSub false (mSubN 0 (mPure (.str "cells"))) (mBind (mSubN 0 (mPure (.str "at"))) asSh)) asSh)))
  (sSeq (sPut 0 (mPure (.str "at")) (mMap O.toD (mOpS addD (mMap O.sh (mBind (mSubN 0 (mPure (.str "at"))) asSh)) (mMap (fun d => ((none : Option Nat), O.sh d)) (mPure (.int 1))))))
  (sIf (mBl (mOpN 2 (liftB fun i j => decide (j ≤ i)) (mMap (fun o => ((none : Option Nat), o)) (mOpS (liftI powI) (mMap O.sh (mPure (.int 10))) (mMap (fun d => ((none : Option Nat), O.sh d)) (mPure (.int 18))))))) (sPut 0 (mPure (.str "digits")) (mMap O.toD (mOpN 2 (liftI subI) (mMap (fun o => ((none : Option Nat), o)) (mOpS (liftI powI) (mMap O.sh (mPure (.int 10))) (mMap (fun d => ((none : Option Nat), O.sh d)) (mPure (.int 18)))))))) (sPut 0 (mPure (.str "fold")) (mMap O.toD (mOpS (liftI modI) (mCall (f1 intD) (mConsB true (mMap (fun o => ((none : Option Nat), o)) (mOpS addD (mOpS (liftI mulI) (mMap O.sh (mBind (mSubN 0 (mPure (.str "fold"))) asSh)) (mMap (fun d => ((none : Option Nat), O.sh d)) (mPure (.int 69069)))) (mNameB 2))) (mPure []))) (mMap (fun d => ((none : Option Nat), O.sh d)) (mPure (.int 2147483587))))))))) sNext)
  (sSeq (sIf (mBl (mOpS (liftB fun i j => decide (j < i)) (mMap O.sh (mBind (mSubN 0 (mPure (.str "digits"))) asSh)) (mMap (fun d => ((none : Option Nat), O.sh d)) (mPure (.int 0))))) (sSeq (sAsg 3 (mOpS (liftI modI) (mCall (f1 intD) (mConsB true (mSubN 0 (mPure (.str "digits"))) (mPure []))) (mNameB 1)))
  (sSeq (sPut 0 (mPure (.str "digits")) (mMap O.toD (mOpS (liftI divI) (mMap O.sh (mBind (mSubN 0 (mPure (.str "digits"))) asSh)) (mNameB 1))))
  (sRet (mNameM 3)))) sNext)
  (sSeq (sAsg 4 (mOpS addD (mOpS addD (mMap O.sh (mBind (mSubN 0 (mPure (.str "fold"))) asSh)) (mMap (fun o => ((none : Option Nat), o)) (mOpS (liftI mulI) (mMap O.sh (mBind (mSubN 0 (mPure (.str "count"))) asSh)) (mMap (fun d => ((none : Option Nat), O.sh d)) (mPure (.int 7907)))))) (mMap (fun d => ((none : Option Nat), O.sh d)) (mPure (.int 43)))))
  (sRet (mOpS (liftI modI) (mOpS (liftI divI) (mCall (f1 intD) (mConsB true (mMap (fun o => ((none : Option Nat), o)) (mOpS (liftI modI) (mOpN 4 (liftI powI) (mMap (fun d => ((none : Option Nat), O.sh d)) (mPure (.int 17)))) (mMap (fun d => ((none : Option Nat), O.sh d)) (mPure (.int 2305843009213693951))))) (mPure []))) (mMap (fun d => ((none : Option Nat), O.sh d)) (mPure (.int 128)))) (mNameB 1)))))))
def sem__law_draw : Sem := semOf 5 2 [0, 1] d__law_draw
def d__law_pick : MS :=
  (sRet (mMap O.sh (mBind (mSubN 1 (mMap O.toD (mCallF sem__law_draw [some 0, none] (mHas 0 (mConsO (mCall (f1 lenD) (mConsB true (mNameB 1) (mPure []))) (mPure [])))))) asSh)))
def sem__law_pick : Sem := semOf 2 2 [0, 1] d__law_pick
def d__law_is_whole : MS :=
  (sRet (mMap O.sh (mAndV (mIsi ["int"] (mNameB 0)) (mMap (fun b => D.bl (!b)) (mTru (mMap (fun d => ((none : Option Nat), O.sh d)) (mIsi ["bool"] (mNameB 0))))))))
def sem__law_is_whole : Sem := semOf 1 1 [0] d__law_is_whole
def d__law_longer : MS :=
  (sSeq (sAsg 2 (mLst (mPure [])))
  (sSeq (sFor (mBind (mNameV 0) seqD) (bName 3)
  (sAsg 2 (mOpN 2 addD (mMap (fun o => ((none : Option Nat), o)) (mLc [4] (mBind (mCons (mNameV 1) (mPure [])) rng1) (bName 4) (mPure true) (mMap O.toD (mOpN 3 addD (mMap (fun d => ((none : Option Nat), O.sh d)) (mTup (mCons (mNameV 4) (mPure [])))))))))))
  (sRet (mNameM 2))))
def sem__law_longer : Sem := semOf 5 2 [0, 1] d__law_longer
def d__law_rows : MS :=
  (sSeq (sAsg 1 (mLst (mCons (mTup (mPure [])) (mPure []))))
  (sSeq (sFor (mBind (mCons (mNameV 0) (mPure [])) rng1) (bName 2)
  (sAsg 1 (mCallF sem__law_longer [some 1, none] (mHas 1 (mConsO (mMap O.sh (mPure (.int 2))) (mPure []))))))
  (sRet (mNameM 1))))
def sem__law_rows : Sem := semOf 3 1 [0] d__law_rows

theorem slotSh_s {x : Option O} {ρ : Env} {i : Nat} : slotSh (x :: ρ) (i + 1) = slotSh ρ i := rfl
theorem slotSh_sh {d : D} {ρ : Env} : slotSh (some (.fd (.sh d)) :: ρ) 0 = true := rfl
theorem slotSh_ct {c : Ct} {ρ : Env} : slotSh (some (.fd (.ct c)) :: ρ) 0 = false := rfl
theorem atI_nat {α : Type} {xs : List α} {i : Nat} {d : α} (h : xs[i]? = some d) : atI xs (i : Int) = some d := by
  have hi : i < xs.length := (List.getElem?_eq_some_iff.mp h).1
  unfold atI ixN
  rw [if_pos (by omega), if_pos (by omega)]
  simpa using h
theorem atI_of {α : Type} {xs : List α} {i : Int} {d : α} (h0 : 0 ≤ i) (h : xs[i.toNat]? = some d) : atI xs i = some d := by
  have e1 : i = ((i.toNat : Nat) : Int) := by omega
  rw [e1]
  exact atI_nat h
theorem atI_last {α : Type} {xs : List α} {d : α} : atI (xs ++ [d]) (-1) = some d := by
  unfold atI ixN
  rw [if_neg (by decide), if_pos (by simp; omega)]
  have : (-1 + ((xs ++ [d]).length : Int)).toNat = xs.length := by simp; omega
  rw [Option.bind_some, this]
  simp
theorem item_lst {z : Option Nat} {xs : List D} {i : Int} {d : D} (h0 : 0 ≤ i) (h : xs[i.toNat]? = some d) : itemOf (z, .sh (.lst xs)) (.int i) = some (none, .sh d) := by
  show (match atI xs i with
    | some d => some (none, O.sh d)
    | none => none) = _
  rw [atI_of h0 h]
theorem item_own {z : Option Nat} {xs : List D} {i : Int} {d : D} (h0 : 0 ≤ i) (h : xs[i.toNat]? = some d) : itemOf (z, .lst xs) (.int i) = some (none, .sh d) := by
  show (match atI xs i with
    | some d => some (none, O.sh d)
    | none => none) = _
  rw [atI_of h0 h]
theorem item_tup {z : Option Nat} {xs : List D} {i : Int} {d : D} (h0 : 0 ≤ i) (h : xs[i.toNat]? = some d) : itemOf (z, .sh (.tup xs)) (.int i) = some (none, .sh d) := by
  show (match atI xs i with
    | some d => some (none, O.sh d)
    | none => none) = _
  rw [atI_of h0 h]
def penKeys : List Key := [.inr "cells", .inr "at", .inr "digits", .inr "count", .inr "fold"]
def penO (cells : List D) (at_ digits count fold : Int) : O := .fd (.ct (.dk penKeys [.lst cells, .int at_, .int digits, .int count, .int fold]))
section
variable {z : Option Nat} {cells : List D} {a d c f v : Int}
theorem pen_cells : itemOf (z, penO cells a d c f) (.str "cells") = some (none, .sh (.lst cells)) := by rfl
theorem pen_at : itemOf (z, penO cells a d c f) (.str "at") = some (none, .sh (.int a)) := by rfl
theorem pen_digits : itemOf (z, penO cells a d c f) (.str "digits") = some (none, .sh (.int d)) := by rfl
theorem pen_count : itemOf (z, penO cells a d c f) (.str "count") = some (none, .sh (.int c)) := by rfl
theorem pen_fold : itemOf (z, penO cells a d c f) (.str "fold") = some (none, .sh (.int f)) := by rfl
theorem put_at : putO (penO cells a d c f) (.str "at") (.int v) = some (penO cells v d c f) := by rfl
theorem put_digits : putO (penO cells a d c f) (.str "digits") (.int v) = some (penO cells a v c f) := by rfl
theorem put_count : putO (penO cells a d c f) (.str "count") (.int v) = some (penO cells a d v f) := by rfl
theorem put_fold : putO (penO cells a d c f) (.str "fold") (.int v) = some (penO cells a d c v) := by rfl
end

@[simp] theorem toD_sh {d : D} : O.toD (.fd (.sh d)) = d := rfl
@[simp] theorem toD_lst {ds : List D} : O.toD (.fd (.ct (.lst ds))) = .lst ds := rfl
structure PenOk (k : Nat) (o : O) : Prop where
  ex : ∃ (ns : List Int) (a d c f : Int), o = penO (ns.map D.int) a d c f ∧ ns.length ≤ lim ∧ 0 ≤ a ∧ 0 ≤ d ∧ 0 ≤ f ∧ f < 2147483587 ∧ 0 ≤ c ∧ c ≤ k
theorem bl_and {p q : Bool} : (p && q) = true ↔ p = true ∧ q = true := Bool.and_eq_true_iff
theorem eq_int {i j : Int} : eqO (.int i) (.int j) = some (.sh (.bl (i == j))) := rfl

theorem powI10 : powI 10 18 = some 1000000000000000000 := by rfl
theorem pow_of {i : Int} (h0 : 0 ≤ i) (h : i < 18446744073709551616) : powI i 17 = some (i ^ 17) := by
  unfold powI
  rw [if_pos ⟨by decide, by decide, by omega⟩]
  rfl
theorem mul_of {i j : Int} (h : i.natAbs < P512) (h' : j.natAbs < P512) : mulI i j = some (i * j) := if_pos ⟨h, h'⟩
theorem div_of {i j : Int} (h : 0 < j) (h' : j.natAbs < P512) : divI i j = some (i / j) := if_pos ⟨h, h'⟩
theorem mod_of {i j : Int} (h : 0 < j) : modI i j = some (i % j) := if_pos h
theorem p512 : (18446744073709551616 : Nat) < P512 := by unfold P512; exact Nat.lt_of_lt_of_le (show 18446744073709551616 < 2 ^ 65 by decide) (Nat.pow_le_pow_right (by decide) (by decide))
theorem lt512 {i : Int} (h0 : 0 ≤ i) (h : i < 18446744073709551616) : i.natAbs < P512 := Nat.lt_trans (by omega) p512
theorem draw_spec {k : Nat} {p : O} {many : Int} (hp : PenOk k p) (h1 : 1 ≤ many) (h2 : many.natAbs < P512) (hk : k ≤ 1073741824) :
    ∃ r p', sem__law_draw [p, .sh (.int many)] = .ok (.sh (.int r)) [some p', some (.sh (.int many))] ∧ 0 ≤ r ∧ r < many ∧ PenOk (k + 1) p' := by
  obtain ⟨ns, a, d, c, f, rfl, hn, ha, hd, hf, hf2, hc, hck⟩ := hp.ex
  suffices h : RetI (fun o ρ => ∃ r p' x y z, o = .sh (.int r) ∧ ρ = [some p', some (.sh (.int many)), x, y, z] ∧ 0 ≤ r ∧ r < many ∧ PenOk (k + 1) p') (d__law_draw [some (penO (ns.map D.int) a d c f), some (.sh (.int many)), none, none, none]) by
    obtain ⟨_, _, e, r, p', x, y, z, rfl, rfl, h3, h4, h5⟩ := h
    exact ⟨r, p', by rw [sem__law_draw, sem_ret (n := 2) rfl e]; rfl, h3, h4, h5⟩
  unfold d__law_draw
  refine w_seq (ρ' := [some (penO (ns.map D.int) a d (c + 1) f), some (.sh (.int many)), none, none, none]) rfl ?_
  refine w_seqI (fun ρ => ∃ a d f u, ρ = [some (penO (ns.map D.int) a d (c + 1) f), some (.sh (.int many)), u, none, none] ∧ 0 ≤ a ∧ 0 ≤ d ∧ 0 ≤ f ∧ f < 2147483587) ?_ ?_
  · by_cases hz : d = 0 ∧ a < ns.length
    · obtain ⟨rfl, hal⟩ := hz
      obtain ⟨x, hx⟩ : ∃ x, ns[a.toNat]? = some x := ⟨_, List.getElem?_eq_getElem (by omega)⟩
      have hix : itemOf (none, .sh (.lst (ns.map D.int))) (.int a) = some (none, .sh (.int x)) := by
        show (match atI (ns.map D.int) a with
          | some d => some (none, O.sh d)
          | none => none) = _
        have e1 : a = ((a.toNat : Nat) : Int) := by omega
        rw [e1, atI_nat (d := .int x) (by rw [List.getElem?_map, hx]; rfl)]
      refine w_ifT (ρ' := [some (penO (ns.map D.int) a 0 (c + 1) f), some (.sh (.int many)), none, none, none]) (by
        simp only [mAndT, mOrT, mBl, mOpS, mOpN, mBind, mMap, mPure, mSubN, mSub, asSh, mCall, f1, f2, mConsB, mNameB, mNameV, mNameM, lenD, DL.intD, liftB, liftI, toD_sh, toD_lst, List.getElem?_cons_zero, List.getElem?_cons_succ, List.map_cons, List.map_nil, pen_cells, pen_at, pen_digits, pen_count, pen_fold, put_at, put_digits, put_count, put_fold, List.set_cons_zero, List.set_cons_succ, sPut, sBind, sAsg, isSh, Bool.false_or, Bool.true_or, if_true, if_false, Bool.false_eq_true, reduceIte, addD, subI, mCallF, mHas, mConsO, fill, putBack, slotSh_s, slotSh_sh, slotSh_ct, List.tail_cons, List.head?_cons, Option.join_some, eq_int, beq_self_eq_true, List.length_map, decide_eq_true hal]) ?_
      refine w_seq (ρ' := [some (penO (ns.map D.int) a 0 (c + 1) f), some (.sh (.int many)), some (.sh (.int x)), none, none]) (by
        simp only [mAndT, mOrT, mBl, mOpS, mOpN, mBind, mMap, mPure, mSubN, mSub, asSh, mCall, f1, f2, mConsB, mNameB, mNameV, mNameM, lenD, DL.intD, liftB, liftI, toD_sh, toD_lst, List.getElem?_cons_zero, List.getElem?_cons_succ, List.map_cons, List.map_nil, pen_cells, pen_at, pen_digits, pen_count, pen_fold, put_at, put_digits, put_count, put_fold, List.set_cons_zero, List.set_cons_succ, sPut, sBind, sAsg, isSh, Bool.false_or, Bool.true_or, if_true, if_false, Bool.false_eq_true, reduceIte, addD, subI, mCallF, mHas, mConsO, fill, putBack, slotSh_s, slotSh_sh, slotSh_ct, List.tail_cons, List.head?_cons, Option.join_some, hix]) ?_
      refine w_seq (ρ' := [some (penO (ns.map D.int) (a + 1) 0 (c + 1) f), some (.sh (.int many)), some (.sh (.int x)), none, none]) (by rfl) ?_
      by_cases hx : (1000000000000000000 : Int) ≤ x
      · refine w_ifT (ρ' := [some (penO (ns.map D.int) (a + 1) 0 (c + 1) f), some (.sh (.int many)), some (.sh (.int x)), none, none]) (by
          simp only [mAndT, mOrT, mBl, mOpS, mOpN, mBind, mMap, mPure, mSubN, mSub, asSh, mCall, f1, f2, mConsB, mNameB, mNameV, mNameM, lenD, DL.intD, liftB, liftI, toD_sh, toD_lst, List.getElem?_cons_zero, List.getElem?_cons_succ, List.map_cons, List.map_nil, pen_cells, pen_at, pen_digits, pen_count, pen_fold, put_at, put_digits, put_count, put_fold, List.set_cons_zero, List.set_cons_succ, sPut, sBind, sAsg, isSh, Bool.false_or, Bool.true_or, if_true, if_false, Bool.false_eq_true, reduceIte, addD, subI, mCallF, mHas, mConsO, fill, putBack, slotSh_s, slotSh_sh, slotSh_ct, List.tail_cons, List.head?_cons, Option.join_some, powI10, decide_eq_true hx]) ?_
        refine ⟨_, ?_, a + 1, x - 1000000000000000000, f, some (.sh (.int x)), rfl, by omega, by omega, hf, hf2⟩
        simp only [mAndT, mOrT, mBl, mOpS, mOpN, mBind, mMap, mPure, mSubN, mSub, asSh, mCall, f1, f2, mConsB, mNameB, mNameV, mNameM, lenD, DL.intD, liftB, liftI, toD_sh, toD_lst, List.getElem?_cons_zero, List.getElem?_cons_succ, List.map_cons, List.map_nil, pen_cells, pen_at, pen_digits, pen_count, pen_fold, put_at, put_digits, put_count, put_fold, List.set_cons_zero, List.set_cons_succ, sPut, sBind, sAsg, isSh, Bool.false_or, Bool.true_or, if_true, if_false, Bool.false_eq_true, reduceIte, addD, subI, mCallF, mHas, mConsO, fill, putBack, slotSh_s, slotSh_sh, slotSh_ct, List.tail_cons, List.head?_cons, Option.join_some, powI10]
      · refine w_ifF (ρ' := [some (penO (ns.map D.int) (a + 1) 0 (c + 1) f), some (.sh (.int many)), some (.sh (.int x)), none, none]) (by
          simp only [mAndT, mOrT, mBl, mOpS, mOpN, mBind, mMap, mPure, mSubN, mSub, asSh, mCall, f1, f2, mConsB, mNameB, mNameV, mNameM, lenD, DL.intD, liftB, liftI, toD_sh, toD_lst, List.getElem?_cons_zero, List.getElem?_cons_succ, List.map_cons, List.map_nil, pen_cells, pen_at, pen_digits, pen_count, pen_fold, put_at, put_digits, put_count, put_fold, List.set_cons_zero, List.set_cons_succ, sPut, sBind, sAsg, isSh, Bool.false_or, Bool.true_or, if_true, if_false, Bool.false_eq_true, reduceIte, addD, subI, mCallF, mHas, mConsO, fill, putBack, slotSh_s, slotSh_sh, slotSh_ct, List.tail_cons, List.head?_cons, Option.join_some, powI10, decide_eq_false hx]) ?_
        have hm : 0 ≤ (f * 69069 + x) % 2147483587 := Int.emod_nonneg _ (by decide)
        have hm2 : (f * 69069 + x) % 2147483587 < 2147483587 := Int.emod_lt_of_pos _ (by decide)
        refine ⟨_, ?_, a + 1, 0, (f * 69069 + x) % 2147483587, some (.sh (.int x)), rfl, by omega, by omega, hm, hm2⟩
        simp only [mAndT, mOrT, mBl, mOpS, mOpN, mBind, mMap, mPure, mSubN, mSub, asSh, mCall, f1, f2, mConsB, mNameB, mNameV, mNameM, lenD, DL.intD, liftB, liftI, toD_sh, toD_lst, List.getElem?_cons_zero, List.getElem?_cons_succ, List.map_cons, List.map_nil, pen_cells, pen_at, pen_digits, pen_count, pen_fold, put_at, put_digits, put_count, put_fold, List.set_cons_zero, List.set_cons_succ, sPut, sBind, sAsg, isSh, Bool.false_or, Bool.true_or, if_true, if_false, Bool.false_eq_true, reduceIte, addD, subI, mCallF, mHas, mConsO, fill, putBack, slotSh_s, slotSh_sh, slotSh_ct, List.tail_cons, List.head?_cons, Option.join_some, mul_of (lt512 hf (by omega)) (lt512 (show (0 : Int) ≤ 69069 by decide) (by decide)), mod_of (show (0 : Int) < 2147483587 by decide)]
    · refine w_ifF (ρ' := [some (penO (ns.map D.int) a d (c + 1) f), some (.sh (.int many)), none, none, none]) ?_ (nextI ⟨a, d, f, none, rfl, ha, hd, hf, hf2⟩)
      by_cases h0 : d = 0
      · subst h0
        have hz' : ¬ (a < (ns.length : Int)) := fun z => hz ⟨rfl, z⟩
        simp only [mAndT, mOrT, mBl, mOpS, mOpN, mBind, mMap, mPure, mSubN, mSub, asSh, mCall, f1, f2, mConsB, mNameB, mNameV, mNameM, lenD, DL.intD, liftB, liftI, toD_sh, toD_lst, List.getElem?_cons_zero, List.getElem?_cons_succ, List.map_cons, List.map_nil, pen_cells, pen_at, pen_digits, pen_count, pen_fold, put_at, put_digits, put_count, put_fold, List.set_cons_zero, List.set_cons_succ, sPut, sBind, sAsg, isSh, Bool.false_or, Bool.true_or, if_true, if_false, Bool.false_eq_true, reduceIte, addD, subI, mCallF, mHas, mConsO, fill, putBack, slotSh_s, slotSh_sh, slotSh_ct, List.tail_cons, List.head?_cons, Option.join_some, eq_int, beq_self_eq_true, List.length_map, decide_eq_false hz']
      · have e0 : (d == 0) = false := beq_eq_false_iff_ne.mpr h0
        simp only [mAndT, mOrT, mBl, mOpS, mOpN, mBind, mMap, mPure, mSubN, mSub, asSh, mCall, f1, f2, mConsB, mNameB, mNameV, mNameM, lenD, DL.intD, liftB, liftI, toD_sh, toD_lst, List.getElem?_cons_zero, List.getElem?_cons_succ, List.map_cons, List.map_nil, pen_cells, pen_at, pen_digits, pen_count, pen_fold, put_at, put_digits, put_count, put_fold, List.set_cons_zero, List.set_cons_succ, sPut, sBind, sAsg, isSh, Bool.false_or, Bool.true_or, if_true, if_false, Bool.false_eq_true, reduceIte, addD, subI, mCallF, mHas, mConsO, fill, putBack, slotSh_s, slotSh_sh, slotSh_ct, List.tail_cons, List.head?_cons, Option.join_some, eq_int, e0]
  · rintro _ ⟨a, d, f, u, rfl, ha, hd, hf, hf2⟩
    by_cases hz : 0 < d
    · refine w_seqRI (fun _ => False) (.inl ?_) (fun _ h => h.elim)
      refine w_ifT (ρ' := [some (penO (ns.map D.int) a d (c + 1) f), some (.sh (.int many)), u, none, none]) (by
        simp only [mAndT, mOrT, mBl, mOpS, mOpN, mBind, mMap, mPure, mSubN, mSub, asSh, mCall, f1, f2, mConsB, mNameB, mNameV, mNameM, lenD, DL.intD, liftB, liftI, toD_sh, toD_lst, List.getElem?_cons_zero, List.getElem?_cons_succ, List.map_cons, List.map_nil, pen_cells, pen_at, pen_digits, pen_count, pen_fold, put_at, put_digits, put_count, put_fold, List.set_cons_zero, List.set_cons_succ, sPut, sBind, sAsg, isSh, Bool.false_or, Bool.true_or, if_true, if_false, Bool.false_eq_true, reduceIte, addD, subI, mCallF, mHas, mConsO, fill, putBack, slotSh_s, slotSh_sh, slotSh_ct, List.tail_cons, List.head?_cons, Option.join_some, decide_eq_true hz]) ?_
      refine w_seq (ρ' := [some (penO (ns.map D.int) a d (c + 1) f), some (.sh (.int many)), u, some (.sh (.int (d % many))), none]) (by
        simp only [mAndT, mOrT, mBl, mOpS, mOpN, mBind, mMap, mPure, mSubN, mSub, asSh, mCall, f1, f2, mConsB, mNameB, mNameV, mNameM, lenD, DL.intD, liftB, liftI, toD_sh, toD_lst, List.getElem?_cons_zero, List.getElem?_cons_succ, List.map_cons, List.map_nil, pen_cells, pen_at, pen_digits, pen_count, pen_fold, put_at, put_digits, put_count, put_fold, List.set_cons_zero, List.set_cons_succ, sPut, sBind, sAsg, isSh, Bool.false_or, Bool.true_or, if_true, if_false, Bool.false_eq_true, reduceIte, addD, subI, mCallF, mHas, mConsO, fill, putBack, slotSh_s, slotSh_sh, slotSh_ct, List.tail_cons, List.head?_cons, Option.join_some, mod_of (show 0 < many by omega)]) ?_
      refine w_seq (ρ' := [some (penO (ns.map D.int) a (d / many) (c + 1) f), some (.sh (.int many)), u, some (.sh (.int (d % many))), none]) (by
        simp only [mAndT, mOrT, mBl, mOpS, mOpN, mBind, mMap, mPure, mSubN, mSub, asSh, mCall, f1, f2, mConsB, mNameB, mNameV, mNameM, lenD, DL.intD, liftB, liftI, toD_sh, toD_lst, List.getElem?_cons_zero, List.getElem?_cons_succ, List.map_cons, List.map_nil, pen_cells, pen_at, pen_digits, pen_count, pen_fold, put_at, put_digits, put_count, put_fold, List.set_cons_zero, List.set_cons_succ, sPut, sBind, sAsg, isSh, Bool.false_or, Bool.true_or, if_true, if_false, Bool.false_eq_true, reduceIte, addD, subI, mCallF, mHas, mConsO, fill, putBack, slotSh_s, slotSh_sh, slotSh_ct, List.tail_cons, List.head?_cons, Option.join_some, div_of (show 0 < many by omega) h2]) ?_
      refine w_ret (r := .sh (.int (d % many))) rfl ⟨_, _, _, _, _, rfl, rfl, Int.emod_nonneg _ (by omega), Int.emod_lt_of_pos _ (by omega), ⟨ns, a, d / many, c + 1, f, rfl, hn, ha, Int.ediv_nonneg hd (by omega), hf, hf2, by omega, by push_cast; omega⟩⟩
    · refine w_seq (ρ' := [some (penO (ns.map D.int) a d (c + 1) f), some (.sh (.int many)), u, none, none]) (w_ifF (P := fun o => o = .next _) (ρ' := [some (penO (ns.map D.int) a d (c + 1) f), some (.sh (.int many)), u, none, none]) (by
        simp only [mAndT, mOrT, mBl, mOpS, mOpN, mBind, mMap, mPure, mSubN, mSub, asSh, mCall, f1, f2, mConsB, mNameB, mNameV, mNameM, lenD, DL.intD, liftB, liftI, toD_sh, toD_lst, List.getElem?_cons_zero, List.getElem?_cons_succ, List.map_cons, List.map_nil, pen_cells, pen_at, pen_digits, pen_count, pen_fold, put_at, put_digits, put_count, put_fold, List.set_cons_zero, List.set_cons_succ, sPut, sBind, sAsg, isSh, Bool.false_or, Bool.true_or, if_true, if_false, Bool.false_eq_true, reduceIte, addD, subI, mCallF, mHas, mConsO, fill, putBack, slotSh_s, slotSh_sh, slotSh_ct, List.tail_cons, List.head?_cons, Option.join_some, decide_eq_false hz]) rfl) ?_
      refine w_seq (ρ' := [some (penO (ns.map D.int) a d (c + 1) f), some (.sh (.int many)), u, none, some (.sh (.int (f + (c + 1) * 7907 + 43)))]) (by
        simp only [mAndT, mOrT, mBl, mOpS, mOpN, mBind, mMap, mPure, mSubN, mSub, asSh, mCall, f1, f2, mConsB, mNameB, mNameV, mNameM, lenD, DL.intD, liftB, liftI, toD_sh, toD_lst, List.getElem?_cons_zero, List.getElem?_cons_succ, List.map_cons, List.map_nil, pen_cells, pen_at, pen_digits, pen_count, pen_fold, put_at, put_digits, put_count, put_fold, List.set_cons_zero, List.set_cons_succ, sPut, sBind, sAsg, isSh, Bool.false_or, Bool.true_or, if_true, if_false, Bool.false_eq_true, reduceIte, addD, subI, mCallF, mHas, mConsO, fill, putBack, slotSh_s, slotSh_sh, slotSh_ct, List.tail_cons, List.head?_cons, Option.join_some, mul_of (lt512 (show 0 ≤ c + 1 by omega) (by omega)) (lt512 (show (0 : Int) ≤ 7907 by decide) (by decide))]) ?_
      refine w_ret (r := .sh (.int ((f + (c + 1) * 7907 + 43) ^ 17 % 2305843009213693951 / 128 % many))) (ρ' := [some (penO (ns.map D.int) a d (c + 1) f), some (.sh (.int many)), u, none, some (.sh (.int (f + (c + 1) * 7907 + 43)))]) ?_
        ⟨_, _, _, _, _, rfl, rfl, Int.emod_nonneg _ (by omega), Int.emod_lt_of_pos _ (by omega), ⟨ns, a, d, c + 1, f, rfl, hn, ha, hd, hf, hf2, by omega, by push_cast; omega⟩⟩
      simp only [mAndT, mOrT, mBl, mOpS, mOpN, mBind, mMap, mPure, mSubN, mSub, asSh, mCall, f1, f2, mConsB, mNameB, mNameV, mNameM, lenD, DL.intD, liftB, liftI, toD_sh, toD_lst, List.getElem?_cons_zero, List.getElem?_cons_succ, List.map_cons, List.map_nil, pen_cells, pen_at, pen_digits, pen_count, pen_fold, put_at, put_digits, put_count, put_fold, List.set_cons_zero, List.set_cons_succ, sPut, sBind, sAsg, isSh, Bool.false_or, Bool.true_or, if_true, if_false, Bool.false_eq_true, reduceIte, addD, subI, mCallF, mHas, mConsO, fill, putBack, slotSh_s, slotSh_sh, slotSh_ct, List.tail_cons, List.head?_cons, Option.join_some, pow_of (show 0 ≤ f + (c + 1) * 7907 + 43 by omega) (by omega), mod_of (show (0 : Int) < 2305843009213693951 by decide), div_of (show (0 : Int) < 128 by decide) (lt512 (show (0 : Int) ≤ 128 by decide) (by decide)), mod_of (show 0 < many by omega)]

theorem pen_slot {k : Nat} {p : O} (hp : PenOk k p) {ρ : Env} : slotSh (some p :: ρ) 0 = false := by
  obtain ⟨ns, a, d, c, f, rfl, _⟩ := hp.ex
  rfl
theorem PenOk.mono {j k : Nat} {p : O} (hp : PenOk j p) (h : j ≤ k) : PenOk k p := by
  obtain ⟨ns, a, d, c, f, e, h1, h2, h3, h4, h5, h6, h7⟩ := hp.ex
  exact ⟨ns, a, d, c, f, e, h1, h2, h3, h4, h5, h6, by omega⟩
/-- what is walked or drawn from -/
inductive SeqO : O → List D → Prop
  | own (xs : List D) : SeqO (.lst xs) xs
  | lst (xs : List D) : SeqO (.sh (.lst xs)) xs
  | tup (xs : List D) : SeqO (.sh (.tup xs)) xs
theorem pick_spec {k : Nat} {p o : O} {xs : List D} (hp : PenOk k p) (ho : SeqO o xs) (h1 : xs ≠ []) (h2 : xs.length ≤ lim) (hk : k ≤ 1073741824) :
    ∃ d p', sem__law_pick [p, o] = .ok (.sh d) [some p', some o] ∧ d ∈ xs ∧ PenOk (k + 1) p' := by
  have hl : 1 ≤ (xs.length : Int) := by
    cases xs with
    | nil => exact absurd rfl h1
    | cons x xs => simp; omega
  obtain ⟨r, p', e, h3, h4, h5⟩ := draw_spec (many := xs.length) hp hl (Nat.lt_trans (by unfold lim at h2; omega) p512) hk
  have hr : r.toNat < xs.length := by omega
  have hx : xs[r.toNat]? = some xs[r.toNat] := List.getElem?_eq_getElem hr
  refine ⟨xs[r.toNat], p', ?_, List.getElem_mem hr, h5⟩
  have hs : d__law_pick [some p, some o] = .ret (.sh xs[r.toNat]) [some p', some o] := by
    unfold d__law_pick sRet
    cases ho with
    | own => simp only [mAndT, mOrT, mBl, mOpS, mOpN, mBind, mMap, mPure, mSubN, mSub, asSh, mCall, f1, f2, mConsB, mNameB, mNameV, mNameM, lenD, DL.intD, liftB, liftI, toD_sh, toD_lst, List.getElem?_cons_zero, List.getElem?_cons_succ, List.map_cons, List.map_nil, pen_cells, pen_at, pen_digits, pen_count, pen_fold, put_at, put_digits, put_count, put_fold, List.set_cons_zero, List.set_cons_succ, sPut, sBind, sAsg, isSh, Bool.false_or, Bool.true_or, if_true, if_false, Bool.false_eq_true, reduceIte, addD, subI, mCallF, mHas, mConsO, fill, putBack, slotSh_s, slotSh_sh, slotSh_ct, List.tail_cons, List.head?_cons, Option.join_some, mCallF, mHas, mConsO, fill, e, putBack, pen_slot hp, List.tail_cons, List.head?_cons, Option.join_some, item_own h3 hx]
    | lst => simp only [mAndT, mOrT, mBl, mOpS, mOpN, mBind, mMap, mPure, mSubN, mSub, asSh, mCall, f1, f2, mConsB, mNameB, mNameV, mNameM, lenD, DL.intD, liftB, liftI, toD_sh, toD_lst, List.getElem?_cons_zero, List.getElem?_cons_succ, List.map_cons, List.map_nil, pen_cells, pen_at, pen_digits, pen_count, pen_fold, put_at, put_digits, put_count, put_fold, List.set_cons_zero, List.set_cons_succ, sPut, sBind, sAsg, isSh, Bool.false_or, Bool.true_or, if_true, if_false, Bool.false_eq_true, reduceIte, addD, subI, mCallF, mHas, mConsO, fill, putBack, slotSh_s, slotSh_sh, slotSh_ct, List.tail_cons, List.head?_cons, Option.join_some, mCallF, mHas, mConsO, fill, e, putBack, pen_slot hp, List.tail_cons, List.head?_cons, Option.join_some, item_lst h3 hx]
    | tup => simp only [mAndT, mOrT, mBl, mOpS, mOpN, mBind, mMap, mPure, mSubN, mSub, asSh, mCall, f1, f2, mConsB, mNameB, mNameV, mNameM, lenD, DL.intD, liftB, liftI, toD_sh, toD_lst, List.getElem?_cons_zero, List.getElem?_cons_succ, List.map_cons, List.map_nil, pen_cells, pen_at, pen_digits, pen_count, pen_fold, put_at, put_digits, put_count, put_fold, List.set_cons_zero, List.set_cons_succ, sPut, sBind, sAsg, isSh, Bool.false_or, Bool.true_or, if_true, if_false, Bool.false_eq_true, reduceIte, addD, subI, mCallF, mHas, mConsO, fill, putBack, slotSh_s, slotSh_sh, slotSh_ct, List.tail_cons, List.head?_cons, Option.join_some, mCallF, mHas, mConsO, fill, e, putBack, pen_slot hp, List.tail_cons, List.head?_cons, Option.join_some, item_tup h3 hx]
  rw [sem__law_pick, sem_ret (n := 2) rfl hs]
  rfl
theorem pen_spec {ns : List Int} (hl : ns.length ≤ 63) : ∃ p fs, sem__law_pen [.sh (.fz (ns.map D.int))] = .ok p fs ∧ PenOk 0 p := by
  suffices h : RetI (fun o _ => PenOk 0 o) (d__law_pen [some (.sh (.fz (ns.map D.int))), none, none]) by
    obtain ⟨r, ρ, e, q⟩ := h
    exact ⟨r, _, by rw [sem__law_pen, sem_ret (n := 1) rfl e], q⟩
  unfold d__law_pen
  refine w_seq (ρ' := [some (.sh (.fz (ns.map D.int))), some (.sh (.int 0)), none]) rfl ?_
  refine w_seqI (fun ρ => ∃ f u, ρ = [some (.sh (.fz (ns.map D.int))), some (.sh (.int f)), u] ∧ 0 ≤ f ∧ f < 1000000007) ?_ ?_
  · refine w_for (fun _ ρ => ∃ f u, ρ = [some (.sh (.fz (ns.map D.int))), some (.sh (.int f)), u] ∧ 0 ≤ f ∧ f < 1000000007) (ds := ns.map D.int) (ρ' := [some (.sh (.fz (ns.map D.int))), some (.sh (.int 0)), none]) rfl ⟨0, none, rfl, by decide, by decide⟩ ?_ (fun ρ h => nextI h)
    rintro i d ρ hd ⟨f, u, rfl, h1, h2⟩
    rw [List.getElem?_map] at hd
    cases hx : ns[i]? with
    | none => rw [hx] at hd; cases hd
    | some x =>
      rw [hx] at hd
      cases hd
      refine ⟨_, rfl, .inl ⟨[some (.sh (.fz (ns.map D.int))), some (.sh (.int ((f * 47 + x) % 1000000007))), some (.sh (.int x))], .inl ?_, _, _, rfl, Int.emod_nonneg _ (by decide), Int.emod_lt_of_pos _ (by decide)⟩⟩
      simp only [mAndT, mOrT, mBl, mOpS, mOpN, mBind, mMap, mPure, mSubN, mSub, asSh, mCall, f1, f2, mConsB, mNameB, mNameV, mNameM, lenD, DL.intD, liftB, liftI, toD_sh, toD_lst, List.getElem?_cons_zero, List.getElem?_cons_succ, List.map_cons, List.map_nil, pen_cells, pen_at, pen_digits, pen_count, pen_fold, put_at, put_digits, put_count, put_fold, List.set_cons_zero, List.set_cons_succ, sPut, sBind, sAsg, isSh, Bool.false_or, Bool.true_or, if_true, if_false, Bool.false_eq_true, reduceIte, addD, subI, mCallF, mHas, mConsO, fill, putBack, slotSh_s, slotSh_sh, slotSh_ct, List.tail_cons, List.head?_cons, Option.join_some, mul_of (lt512 h1 (by omega)) (lt512 (show (0 : Int) ≤ 47 by decide) (by decide)), mod_of (show (0 : Int) < 1000000007 by decide)]
  · rintro _ ⟨f, u, rfl, h1, h2⟩
    exact w_ret (r := penO (ns.map D.int) 0 0 0 f) rfl ⟨ns, 0, 0, 0, f, rfl, by unfold lim; omega, by decide, by decide, h1, by omega, by decide, by decide⟩
theorem whole_spec {d : D} {b : Bool} (h : (match d with | .int _ => some true | .tup _ => some false | .lst _ => some false | .non => some false | .str _ => some false | .bl _ => some false | _ => none) = some b) : sem__law_is_whole [.sh d] = .ok (.sh (.bl b)) [some (.sh d)] := by
  cases d <;> simp at h <;> subst h <;> rfl
/-- the rows of so many bits -/
def BitRow (n : Nat) (d : D) : Prop := ∃ bs : List Int, d = .tup (bs.map D.int) ∧ bs.length = n ∧ ∀ b ∈ bs, b = 0 ∨ b = 1
end DL

end

section
set_option Elab.async false
set_option linter.all false
set_option maxRecDepth 100000
/-! DL, part S: == and in of data, plain comprehensions. -/
namespace DL
open PySem L2 RZ PyProof.Rows

theorem rng1_ok {n : Nat} {ρ : Env} (h : n ≤ 1000000) : rng1 [.int (n : Int)] ρ = .ok (rngD 0 n) ρ := by
  have h1 : -(2 ^ 62) ≤ (n : Int) := by omega
  have h2 : (n : Int) < 2 ^ 62 := by omega
  unfold rng1
  simp only
  rw [if_pos ⟨h1, h2⟩]
  rfl
theorem rng2_ok {i j : Int} {ρ : Env} (h : 0 ≤ i ∧ i ≤ 1000000 ∧ 0 ≤ j ∧ j ≤ 1000000) : rng2 [.int i, .int j] ρ = .ok (rngD i (j - i).toNat) ρ := by
  have h1 : -(2 ^ 62) ≤ i ∧ i < 2 ^ 62 ∧ -(2 ^ 62) ≤ j ∧ j < 2 ^ 62 := by omega
  unfold rng2
  simp only
  rw [if_pos h1]
  rfl
/-! ### == -/
mutual
theorem eqv_refl : ∀ p : PyData, p.canLay0 = true → PyData.eqv p p = true
  | .none, _ => rfl
  | .bool b, _ => by simp [PyData.eqv]
  | .int i, _ => by simp [PyData.eqv]
  | .str x, _ => by simp [PyData.eqv]
  | .list xs, h => by simp only [PyData.eqv]; exact eqvAll_refl xs (by simpa [PyData.canLay0] using h)
  | .tuple xs, h => by simp only [PyData.eqv]; exact eqvAll_refl xs (by simpa [PyData.canLay0] using h)
  | .dict _, h => by simp [PyData.canLay0] at h
theorem eqvAll_refl : ∀ ps : List PyData, PyData.canLayAll0 ps = true → PyData.eqvAll ps ps = true
  | [], _ => rfl
  | p :: ps, h => by
    have h' : p.canLay0 = true ∧ PyData.canLayAll0 ps = true := by simpa [PyData.canLayAll0] using h
    simp only [PyData.eqvAll, eqv_refl p h'.1, eqvAll_refl ps h'.2, Bool.and_self]
end
/-- data that can be compared -/
def Sh (n : Nat) (d : D) : Prop := ∃ p, toPy d = some p ∧ p.canLay0 = true ∧ p.depth ≤ n
theorem Sh.mono {n m : Nat} {d : D} (h : Sh n d) (hm : n ≤ m) : Sh m d := by
  obtain ⟨p, h1, h2, h3⟩ := h
  exact ⟨p, h1, h2, by omega⟩
theorem sh_int {n : Nat} {i : Int} : Sh n (.int i) := ⟨.int i, rfl, rfl, Nat.zero_le _⟩
theorem sh_bl {n : Nat} {b : Bool} : Sh n (.bl b) := ⟨.bool b, rfl, rfl, Nat.zero_le _⟩
theorem sh_non {n : Nat} : Sh n .non := ⟨.none, rfl, rfl, Nat.zero_le _⟩
theorem sh_str {n : Nat} {x : Str} (h : PyData.strOk x = true) : Sh n (.str x) := ⟨.str x, rfl, by simpa [PyData.canLay0] using h, Nat.zero_le _⟩
theorem sh_all {n : Nat} : ∀ {ds : List D}, (∀ d ∈ ds, Sh n d) → ∃ ps, toPys ds = some ps ∧ PyData.canLayAll0 ps = true ∧ PyData.depthAll ps ≤ n
  | [], _ => ⟨[], rfl, rfl, Nat.zero_le _⟩
  | d :: ds, h => by
    obtain ⟨p, h1, h2, h3⟩ := h d (by simp)
    obtain ⟨ps, h4, h5, h6⟩ := sh_all fun d hd => h d (List.mem_cons_of_mem _ hd)
    exact ⟨p :: ps, by simp only [toPys, h1, h4], by simp only [PyData.canLayAll0, h2, h5, Bool.and_self], by simp only [PyData.depthAll]; omega⟩
theorem sh_tup {n : Nat} {ds : List D} (h : ∀ d ∈ ds, Sh n d) : Sh (n + 1) (.tup ds) := by
  obtain ⟨ps, h1, h2, h3⟩ := sh_all h
  exact ⟨.tuple ps, by simp only [toPy, h1], by simpa [PyData.canLay0] using h2, by simp only [PyData.depth]; omega⟩
theorem sh_lst {n : Nat} {ds : List D} (h : ∀ d ∈ ds, Sh n d) : Sh (n + 1) (.lst ds) := by
  obtain ⟨ps, h1, h2, h3⟩ := sh_all h
  exact ⟨.list ps, by simp only [toPy, h1], by simpa [PyData.canLay0] using h2, by simp only [PyData.depth]; omega⟩
theorem eqD_sh {a b : D} {n : Nat} (ha : Sh n a) (hb : Sh n b) (hn : n ≤ 64) : ∃ p q, toPy a = some p ∧ toPy b = some q ∧ eqD a b = some (PyData.eqv p q) := by
  obtain ⟨p, h1, h2, h3⟩ := ha
  obtain ⟨q, h4, h5, h6⟩ := hb
  refine ⟨p, q, h1, h4, ?_⟩
  unfold eqD
  rw [h1, h4]
  simp only
  have e1 : SeqAt.shaped p = true := by unfold SeqAt.shaped; rw [h2, decide_eq_true (by omega)]; rfl
  have e2 : SeqAt.shaped q = true := by unfold SeqAt.shaped; rw [h5, decide_eq_true (by omega)]; rfl
  rw [e1, e2]
  rfl
theorem eqD_self {a : D} {n : Nat} (ha : Sh n a) (hn : n ≤ 64) : eqD a a = some true := by
  obtain ⟨p, q, h1, h2, h3⟩ := eqD_sh ha ha hn
  rw [h1] at h2
  cases h2
  obtain ⟨p', h4, h5, _⟩ := ha
  rw [h1] at h4
  cases h4
  rw [h3, eqv_refl p h5]
theorem neO_self {a : D} {n : Nat} (ha : Sh n a) (hn : n ≤ 64) : neO a a = some (.sh (.bl false)) := by unfold neO; rw [eqD_self ha hn]; rfl
theorem eqO_self {a : D} {n : Nat} (ha : Sh n a) (hn : n ≤ 64) : eqO a a = some (.sh (.bl true)) := by unfold eqO; rw [eqD_self ha hn]
theorem eqD_nilL {ds : List D} {n : Nat} (h : Sh n (.lst ds)) (hn : n ≤ 64) : eqD (.lst ds) (.lst []) = some ds.isEmpty := by
  obtain ⟨p, q, h1, h2, h3⟩ := eqD_sh h (sh_lst (n := 0) (ds := []) (by simp) |>.mono (m := max n 1) (by omega) |>.mono (m := max n 1) (by omega) |> fun z => by
    obtain ⟨p, h1, h2, h3⟩ := h
    cases n with
    | zero =>
      exfalso
      cases e : toPys ds with
      | none => simp only [toPy, e] at h1; cases h1
      | some ps => simp only [toPy, e] at h1; cases h1; simp only [PyData.depth] at h3; omega
    | succ n => exact (sh_lst (n := 0) (ds := []) (by simp)).mono (by omega)) hn
  rw [h3]
  have e2 : q = .list [] := by
    have : toPy (.lst []) = some (.list []) := rfl
    rw [this] at h2
    cases h2
    rfl
  subst e2
  cases ds with
  | nil =>
    have : toPy (.lst []) = some (.list []) := rfl
    rw [this] at h1
    cases h1
    rfl
  | cons d ds =>
    cases e : toPys (d :: ds) with
    | none => simp only [toPy, e] at h1; cases h1
    | some ps =>
      simp only [toPy, e] at h1
      cases h1
      cases ps with
      | nil =>
        simp only [toPys] at e
        split at e <;> cases e
      | cons p ps => rfl
theorem neO_nilL {ds : List D} {n : Nat} (h : Sh n (.lst ds)) (hn : n ≤ 64) : neO (.lst ds) (.lst []) = some (.sh (.bl (!ds.isEmpty))) := by unfold neO; rw [eqD_nilL h hn]
theorem eqO_nilL {ds : List D} {n : Nat} (h : Sh n (.lst ds)) (hn : n ≤ 64) : eqO (.lst ds) (.lst []) = some (.sh (.bl ds.isEmpty)) := by unfold eqO; rw [eqD_nilL h hn]
theorem neO_int {i j : Int} : neO (.int i) (.int j) = some (.sh (.bl (!(i == j)))) := rfl
theorem sh_ints {ns : List Int} : Sh 1 (.lst (ns.map D.int)) := sh_lst fun d hd => by
  obtain ⟨i, _, rfl⟩ := List.mem_map.mp hd
  exact sh_int
theorem sh_intsT {ns : List Int} : Sh 1 (.tup (ns.map D.int)) := sh_tup fun d hd => by
  obtain ⟨i, _, rfl⟩ := List.mem_map.mp hd
  exact sh_int

/-! ### in -/
theorem fls_ints : ∀ ns : List Int, flsD (ns.map D.int) = some (ns.map V.int)
  | [] => rfl
  | n :: ns => by simp only [List.map_cons, flsD, flD, fls_ints ns]
theorem inV_ints (i : Int) : ∀ ns : List Int, inV (.int i) (ns.map V.int) = decide (i ∈ ns)
  | [] => rfl
  | n :: ns => by
    have ih := inV_ints i ns
    unfold inV at ih ⊢
    rw [List.map_cons, List.any_cons, ih]
    show ((n == i) || _) = _
    by_cases h : n = i
    · subst h; simp
    · have h' : (n == i) = false := beq_eq_false_iff_ne.mpr h
      have h2 : ¬ i = n := fun z => h z.symm
      simp [h', h2]
theorem inT_ints {neg : Bool} {i : Int} {ns : List Int} : inO neg (.int i) (.tup (ns.map D.int)) = some (.sh (.bl (if neg then !decide (i ∈ ns) else decide (i ∈ ns)))) := by
  unfold inO inB
  simp only [flD, fls_ints, inV_ints]
theorem inL_ints {neg : Bool} {i : Int} {ns : List Int} : inO neg (.int i) (.lst (ns.map D.int)) = some (.sh (.bl (if neg then !decide (i ∈ ns) else decide (i ∈ ns)))) := by
  unfold inO inB
  simp only [flD, fls_ints, inV_ints]

/-! ### comprehensions that change nothing -/
theorem m_lcP {α : Type} {vs : List Nat} {src : M (List D)} {bn : Bn} {t : M Bool} {e : M D} {xs : List α} {ρ ρ' : Env} (g : α → D) (c : α → Bool) (f : α → D) (h : src ρ = .ok (xs.map g) ρ') (hl : xs.length ≤ lim)
    (hd : ∀ x ∈ xs, ∃ ρ1 ρ2, bn (g x) (wipeE ρ' vs) = some ρ1 ∧ t ρ1 = .ok (c x) ρ2 ∧ wipeE ρ2 vs = wipeE ρ' vs ∧ (c x = true → ∃ ρ3, e ρ2 = .ok (f x) ρ3 ∧ wipeE ρ3 vs = wipeE ρ' vs)) :
    mLc vs src bn t e ρ = .ok (.lst ((xs.filter c).map f)) (backE ρ' (wipeE ρ' vs) vs) := by
  obtain ⟨acc, ρ2, e1, e2, e3⟩ := m_lc (Q := fun acc ρ2 => acc = (xs.filter c).map f ∧ ρ2 = backE ρ' (wipeE ρ' vs) vs) (fun i acc ρ => ρ = wipeE ρ' vs ∧ acc = ((xs.take i).filter c).map f) h ⟨rfl, by simp⟩ (fun i d acc ρ hi ⟨h1, h2⟩ => by
    subst h1 h2
    rw [List.getElem?_map] at hi
    cases hx : xs[i]? with
    | none => rw [hx] at hi; cases hi
    | some x =>
      rw [hx] at hi
      cases hi
      have hm : x ∈ xs := List.mem_iff_getElem?.mpr ⟨i, hx⟩
      have hil : i < xs.length := (List.getElem?_eq_some_iff.mp hx).1
      obtain ⟨ρ1, ρ2, hb, ht, hw, he⟩ := hd x hm
      refine ⟨ρ1, c x, ρ2, hb, ht, fun hc => ⟨hw, ?_⟩, fun hc => ⟨?_, ?_⟩⟩
      · rw [List.take_add_one, hx, List.filter_append]
        simp [hc]
      · rw [List.length_map]
        have := List.length_filter_le c (xs.take i)
        rw [List.length_take] at this
        omega
      · obtain ⟨ρ3, h3, h4⟩ := he hc
        refine ⟨f x, ρ3, h3, h4, ?_⟩
        rw [List.take_add_one, hx, List.filter_append]
        simp [hc]) (fun acc ρ2 ⟨h1, h2⟩ => ⟨by rw [h2, List.length_map, List.take_length], by rw [h1]⟩)
  rw [e1, e2, e3]
theorem m_lcR {α : Type} {vs : List Nat} {src : M (List D)} {bn : Bn} {t : M Bool} {e : M D} {xs : List α} {ρ ρ' : Env} (g : α → D) (c : α → Bool) (f : α → D) (h : src ρ = .ok (xs.map g) ρ') (hb : backE ρ' (wipeE ρ' vs) vs = ρ') (hl : xs.length ≤ lim)
    (hd : ∀ x ∈ xs, ∃ ρ1 ρ2, bn (g x) (wipeE ρ' vs) = some ρ1 ∧ t ρ1 = .ok (c x) ρ2 ∧ wipeE ρ2 vs = wipeE ρ' vs ∧ (c x = true → ∃ ρ3, e ρ2 = .ok (f x) ρ3 ∧ wipeE ρ3 vs = wipeE ρ' vs)) :
    mLc vs src bn t e ρ = .ok (.lst ((xs.filter c).map f)) ρ' := by
  have q := m_lcP (ρ' := ρ') g c f h hl hd
  rw [hb] at q
  exact q
/-- .. all of them -/
theorem m_lcA {α : Type} {vs : List Nat} {src : M (List D)} {bn : Bn} {e : M D} {xs : List α} {ρ ρ' : Env} (g : α → D) (f : α → D) (h : src ρ = .ok (xs.map g) ρ') (hb : backE ρ' (wipeE ρ' vs) vs = ρ') (hl : xs.length ≤ lim)
    (hd : ∀ x ∈ xs, ∃ ρ1, bn (g x) (wipeE ρ' vs) = some ρ1 ∧ ∃ ρ3, e ρ1 = .ok (f x) ρ3 ∧ wipeE ρ3 vs = wipeE ρ' vs ∧ wipeE ρ1 vs = wipeE ρ' vs) :
    mLc vs src bn (mPure true) e ρ = .ok (.lst (xs.map f)) ρ' := by
  have q := m_lcR (t := mPure true) g (fun _ => true) f h hb hl fun x hx => by
    obtain ⟨ρ1, h1, ρ3, h2, h3, h4⟩ := hd x hx
    exact ⟨ρ1, ρ1, h1, rfl, h4, fun _ => ⟨ρ3, h2, h3⟩⟩
  have e : xs.filter (fun _ => true) = xs := List.filter_eq_self.mpr fun _ _ => rfl
  rw [e] at q
  exact q
end DL

end

section
set_option Elab.async false
set_option linter.all false
set_option maxRecDepth 100000
namespace K24
open PySem L2 RZ DL PyProof.Rows
abbrev top (i : Nat) : Stmt := PySem.Challenge.pw_everycycle_k24_whole_resolvents.main.body.getD i (.Pass ⟨0, 0, 0, 0⟩)
/-- what the module does not rebind -/
structure Txt (mg : Str → Option Value) : Prop where
  m : ∀ x ∈ (["abs", "any", "bool", "int", "isinstance", "len", "list", "range", "set", "sorted", "tuple"] : List Str), mg x = none

/-! ### _law_pen(_law_script): slots 0 _law_script, 1 _law_fold, 2 _law_cell -/
abbrev s__law_pen : Stmt := top 13
-- d__law_pen, sem__law_pen: the shared ones
theorem sc__law_pen : FnScope ["_law_script", "_law_fold", "_law_cell"] ["_law_script"] (defScope s__law_pen) := ⟨rfl, rfl, rfl, by decide +kernel, rfl, by decide +kernel, by decide +kernel⟩
theorem ok__law_pen {P : Program} {w : World} {K : PySem.W.Frag} {mg : Str → Option Value} {base : Heap} (T : Txt mg) {f : Addr} {fd : FuncData} (F : Fun K "_law_pen" "_law_pen" s__law_pen f fd) (hm : mg "_law_pen" = some (.ref f)) : Cal P w K mg base 1 "_law_pen" ["_law_script"] sem__law_pen :=
  ⟨f, fd, fn_D (k := 0) (N := ["_law_script", "_law_fold", "_law_cell"]) F sc__law_pen (by decide) (fun cdv A outer s H E hr => have sc := sc__law_pen
    (dS_cons (dS_set (i := 1) (fun _ h => ps_set sc.nd rfl (by first | exact Or.inl rfl | exact Or.inr rfl) h) (dE_V dV_int) (by decide))
    (dS_cons (dS_for (fun g tb hg hb => ps_for PassesOwn.never rfl (dI_seq (fun h => pi_list h) (fun h => pi_tup h) (dV_nameV (pv 0))) hg hb) (fun _ _ _ z => z) (dG_name (pg_name sc.nd rfl (by first | exact Or.inl rfl | exact Or.inr rfl)))
    (dS_one (dS_set (i := 1) (fun _ h => ps_set sc.nd rfl (by first | exact Or.inl rfl | exact Or.inr rfl) h) (de_opS op_mod mod_sem (dE_callT call_int1 (Call1.op int_sem) rfl (T.m "int" (by decide)) PyProof.Rows.boot_int (dBs_cons (dB_E (de_opS op_addA add_sem (de_opN op_mulW mul_semI (pv 1) (dB_V dV_int)) (dB_name (pv 2)))) dBs_nil) (by decide) (by decide)) (dB_V dV_int)) (by decide))) (by decide))
    (dS_one (dS_ret (dE_disp (dP_cons dV_str (dV_E (dE_callT call_list_of (Call1.op list_sem) rfl (T.m "list" (by decide)) PyProof.Rows.boot_list (dBs_cons (dB_name (pv 0)) dBs_nil) (by decide) (by decide))) (dP_cons dV_str dV_int (dP_cons dV_str dV_int (dP_cons dV_str dV_int (dP_cons dV_str (dV_nameV (pv 1)) (dP_nil)))))))))))), hm, F.kp, F.binds fun _ _ _ _ _ _ us hl => match us, hl with | [_], _ => rfl⟩

/-! ### _law_draw(_law_pen_here, _law_many): slots 0 _law_pen_here, 1 _law_many, 2 _law_cell, 3 _law_digit, 4 _law_blend -/
abbrev s__law_draw : Stmt := top 14
-- d__law_draw, sem__law_draw: the shared ones
theorem sc__law_draw : FnScope ["_law_pen_here", "_law_many", "_law_cell", "_law_digit", "_law_blend"] ["_law_pen_here", "_law_many"] (defScope s__law_draw) := ⟨rfl, rfl, rfl, by decide +kernel, rfl, by decide +kernel, by decide +kernel⟩
theorem ok__law_draw {P : Program} {w : World} {K : PySem.W.Frag} {mg : Str → Option Value} {base : Heap} (T : Txt mg) {f : Addr} {fd : FuncData} (F : Fun K "_law_draw" "_law_draw" s__law_draw f fd) (hm : mg "_law_draw" = some (.ref f)) : Cal P w K mg base 1 "_law_draw" ["_law_pen_here", "_law_many"] sem__law_draw :=
  ⟨f, fd, fn_D (k := 0) (N := ["_law_pen_here", "_law_many", "_law_cell", "_law_digit", "_law_blend"]) F sc__law_draw (by decide) (fun cdv A outer s H E hr => have sc := sc__law_draw
    (dS_cons (dS_put (fun _ _ _ h1 h2 h3 => ps_dput (hu_of hr) h1 h2 h3 rfl) (pv 0) dV_str (dV_E (de_opS op_addA add_sem (dE_V (dV_B (dB_subN (hu_of hr) (pv 0) dV_str (by intro _ _; rfl) (by intro _ _; rfl)))) (dB_V dV_int))))
    (dS_cons (dS_if (PW.pt (dT_and (dT_cmpS (op_eqD (hu64 hr)) eq_sem (dE_V (dV_B (dB_subN (hu_of hr) (pv 0) dV_str (by intro _ _; rfl) (by intro _ _; rfl)))) (dB_V dV_int) (nomark _)) (dT_and1 (dT_cmpS op_lt lt_sem (dE_V (dV_B (dB_subN (hu_of hr) (pv 0) dV_str (by intro _ _; rfl) (by intro _ _; rfl)))) (dB_E (dE_callB call_lenA (Call1.op len_sem) rfl (T.m "len" (by decide)) PySem.boot_len (dBs_cons (dB_subN (hu_of hr) (pv 0) dV_str (by intro _ _; rfl) (by intro _ _; rfl)) dBs_nil) (by decide) (by decide))) (nomark _))))) (dS_cons (dS_set (i := 2) (fun _ h => ps_set sc.nd rfl (by first | exact Or.inl rfl | exact Or.inr rfl) h) (dE_V (dV_B (dB_sub (hu_of hr) (dB_subN (hu_of hr) (pv 0) dV_str (by intro _ _; rfl) (by intro _ _; rfl)) (dV_no (dV_B (dB_subN (hu_of hr) (pv 0) dV_str (by intro _ _; rfl) (by intro _ _; rfl)))) (by intro _ _; rfl) (by intro _ _; rfl)))) (by decide))
    (dS_cons (dS_put (fun _ _ _ h1 h2 h3 => ps_dput (hu_of hr) h1 h2 h3 rfl) (pv 0) dV_str (dV_E (de_opS op_addA add_sem (dE_V (dV_B (dB_subN (hu_of hr) (pv 0) dV_str (by intro _ _; rfl) (by intro _ _; rfl)))) (dB_V dV_int))))
    (dS_one (dS_if (dT_cmpN op_ge ge_sem (pv 2) (dB_E (de_opS op_pow pow_sem (dE_V dV_int) (dB_V dV_int))) (nomark _)) (dS_one (dS_put (fun _ _ _ h1 h2 h3 => ps_dput (hu_of hr) h1 h2 h3 rfl) (pv 0) dV_str (dV_E (de_opN op_sub sub_sem (pv 2) (dB_E (de_opS op_pow pow_sem (dE_V dV_int) (dB_V dV_int))))))) (dS_one (dS_put (fun _ _ _ h1 h2 h3 => ps_dput (hu_of hr) h1 h2 h3 rfl) (pv 0) dV_str (dV_E (de_opS op_mod mod_sem (dE_callT call_int1 (Call1.op int_sem) rfl (T.m "int" (by decide)) PyProof.Rows.boot_int (dBs_cons (dB_E (de_opS op_addA add_sem (de_opS op_mulW mul_semI (dE_V (dV_B (dB_subN (hu_of hr) (pv 0) dV_str (by intro _ _; rfl) (by intro _ _; rfl)))) (dB_V dV_int)) (dB_name (pv 2)))) dBs_nil) (by decide) (by decide)) (dB_V dV_int))))))))) dS_nil)
    (dS_cons (dS_if (dT_cmpS op_gt gt_sem (dE_V (dV_B (dB_subN (hu_of hr) (pv 0) dV_str (by intro _ _; rfl) (by intro _ _; rfl)))) (dB_V dV_int) (nomark _)) (dS_cons (dS_set (i := 3) (fun _ h => ps_set sc.nd rfl (by first | exact Or.inl rfl | exact Or.inr rfl) h) (de_opS op_mod mod_sem (dE_callT call_int1 (Call1.op int_sem) rfl (T.m "int" (by decide)) PyProof.Rows.boot_int (dBs_cons (dB_subN (hu_of hr) (pv 0) dV_str (by intro _ _; rfl) (by intro _ _; rfl)) dBs_nil) (by decide) (by decide)) (dB_name (pv 1))) (by decide))
    (dS_cons (dS_put (fun _ _ _ h1 h2 h3 => ps_dput (hu_of hr) h1 h2 h3 rfl) (pv 0) dV_str (dV_E (de_opS op_fdivW div_sem (dE_V (dV_B (dB_subN (hu_of hr) (pv 0) dV_str (by intro _ _; rfl) (by intro _ _; rfl)))) (dB_name (pv 1)))))
    (dS_one (dS_ret (dE_nameM (pv 3)))))) dS_nil)
    (dS_cons (dS_set (i := 4) (fun _ h => ps_set sc.nd rfl (by first | exact Or.inl rfl | exact Or.inr rfl) h) (de_opS op_addA add_sem (de_opS op_addA add_sem (dE_V (dV_B (dB_subN (hu_of hr) (pv 0) dV_str (by intro _ _; rfl) (by intro _ _; rfl)))) (dB_E (de_opS op_mulW mul_semI (dE_V (dV_B (dB_subN (hu_of hr) (pv 0) dV_str (by intro _ _; rfl) (by intro _ _; rfl)))) (dB_V dV_int)))) (dB_V dV_int)) (by decide))
    (dS_one (dS_ret (de_opS op_mod mod_sem (de_opS op_fdivW div_sem (dE_callT call_int1 (Call1.op int_sem) rfl (T.m "int" (by decide)) PyProof.Rows.boot_int (dBs_cons (dB_E (de_opS op_mod mod_sem (de_opN op_pow pow_sem (pv 4) (dB_V dV_int)) (dB_V dV_int))) dBs_nil) (by decide) (by decide)) (dB_V dV_int)) (dB_name (pv 1)))))))))), hm, F.kp, F.binds fun _ _ _ _ _ _ us hl => match us, hl with | [_, _], _ => rfl⟩

/-! ### _law_pick(_law_pen_here, _law_some): slots 0 _law_pen_here, 1 _law_some -/
abbrev s__law_pick : Stmt := top 15
-- d__law_pick, sem__law_pick: the shared ones
theorem sc__law_pick : FnScope ["_law_pen_here", "_law_some"] ["_law_pen_here", "_law_some"] (defScope s__law_pick) := ⟨rfl, rfl, rfl, by decide +kernel, rfl, by decide +kernel, by decide +kernel⟩
theorem ok__law_pick {P : Program} {w : World} {K : PySem.W.Frag} {mg : Str → Option Value} {base : Heap} (T : Txt mg) (c__law_draw : Cal P w K mg base 1 "_law_draw" ["_law_pen_here", "_law_many"] sem__law_draw) {f : Addr} {fd : FuncData} (F : Fun K "_law_pick" "_law_pick" s__law_pick f fd) (hm : mg "_law_pick" = some (.ref f)) : Cal P w K mg base 2 "_law_pick" ["_law_pen_here", "_law_some"] sem__law_pick :=
  ⟨f, fd, fn_D (k := 1) (N := ["_law_pen_here", "_law_some"]) F sc__law_pick (by decide) (fun cdv A outer s H E hr => have sc := sc__law_pick
    (dS_one (dS_ret (dE_V (dV_B (dB_subN (hu_of hr) (pv 1) (dV_E (de_callC c__law_draw hr (by decide) rfl (dA_slot (pv 0) (dA_push (dE_callB call_lenA (Call1.op len_sem) rfl (T.m "len" (by decide)) PySem.boot_len (dBs_cons (dB_name (pv 1)) dBs_nil) (by decide) (by decide)) dA_nil)))) (by intro _ _; rfl) (by intro _ _; rfl))))))), hm, F.kp, F.binds fun _ _ _ _ _ _ us hl => match us, hl with | [_, _], _ => rfl⟩

/-! ### _law_drawn_clause(_law_pen_here, _law_many, _law_most): slots 0 _law_pen_here, 1 _law_many, 2 _law_most, 3 _law_some, 4 _law_variable -/
abbrev s__law_drawn_clause : Stmt := top 19
def d__law_drawn_clause : MS :=
  (sSeq (sAsg 3 (mLc [4] (mBind (mCons (mPure (.int 1)) (mCons (mMap O.toD (mOpN 1 addD (mMap (fun d => ((none : Option Nat), O.sh d)) (mPure (.int 1))))) (mPure []))) rng2) (bName 4) (mBl (mOpS (liftB fun i j => decide (i < j)) (mCallF sem__law_draw [some 0, some 1] (mHas 0 (mHas 1 (mPure [])))) (mNameB 2))) (mNameV 4)))
  (sSeq (sAsg 3 (mIf (mBl (mOpN 3 neO (mMap (fun o => ((none : Option Nat), o)) (mLst (mPure []))))) (mMap O.sh (mNameV 3)) (mLst (mCons (mMap O.toD (mOpS addD (mMap O.sh (mPure (.int 1))) (mMap (fun o => ((none : Option Nat), o)) (mCallF sem__law_draw [some 0, some 1] (mHas 0 (mHas 1 (mPure []))))))) (mPure [])))))
  (sRet (mCall (f1 tupleD) (mConsB true (mMap (fun o => ((none : Option Nat), o)) (mLc [4] (mBind (mNameV 3) seqD) (bName 4) (mPure true) (mMap O.toD (mOpN 4 (liftI mulI) (mMap (fun o => ((none : Option Nat), o)) (mCallF sem__law_pick [some 0, none] (mHas 0 (mConsO (mLst (mCons (mPure (.int 1)) (mCons (mNeg (mPure (.int 1))) (mPure [])))) (mPure []))))))))) (mPure []))))))
def sem__law_drawn_clause : Sem := semOf 5 3 [0, 1, 2] d__law_drawn_clause
theorem sc__law_drawn_clause : FnScope ["_law_pen_here", "_law_many", "_law_most", "_law_some", "_law_variable"] ["_law_pen_here", "_law_many", "_law_most"] (defScope s__law_drawn_clause) := ⟨rfl, rfl, rfl, by decide +kernel, rfl, by decide +kernel, by decide +kernel⟩
theorem ok__law_drawn_clause {P : Program} {w : World} {K : PySem.W.Frag} {mg : Str → Option Value} {base : Heap} (T : Txt mg) (c__law_draw : Cal P w K mg base 1 "_law_draw" ["_law_pen_here", "_law_many"] sem__law_draw) (c__law_pick : Cal P w K mg base 2 "_law_pick" ["_law_pen_here", "_law_some"] sem__law_pick) {f : Addr} {fd : FuncData} (F : Fun K "_law_drawn_clause" "_law_drawn_clause" s__law_drawn_clause f fd) (hm : mg "_law_drawn_clause" = some (.ref f)) : Cal P w K mg base 3 "_law_drawn_clause" ["_law_pen_here", "_law_many", "_law_most"] sem__law_drawn_clause :=
  ⟨f, fd, fn_D (k := 2) (N := ["_law_pen_here", "_law_many", "_law_most", "_law_some", "_law_variable"]) F sc__law_drawn_clause (by decide) (fun cdv A outer s H E hr => have sc := sc__law_drawn_clause
    (dS_cons (dS_setLc (W' := W0) (own := [("_law_variable", 4)]) rfl sc.nd rfl rfl (sw_true rfl rfl rfl (by decide +kernel)) (blkOk_by (by rfl)) (dI_rng2 (pi_range2 rfl (T.m "range" (by decide)) (dVs_cons dV_int (dVs_cons (dV_E (de_opN op_addA add_sem (pv 1) (dB_V dV_int))) dVs_nil)))) (fun s H C cl fp => (dG_name (pg_name sc.nd rfl (by first | exact Or.inl rfl | exact Or.inr rfl)))) (fun s H C cl fp => (dTs_one (dT_cmpS op_lt lt_sem (de_callC c__law_draw hr (by decide) rfl (dA_slot (pv 0) (dA_slot (pv 1) dA_nil))) (dB_name (pv 2)) (nomark _)))) (fun s H C cl fp => (dV_nameV (pv 4))) (by decide))
    (dS_cons (dS_set (i := 3) (fun _ h => ps_set sc.nd rfl (by first | exact Or.inl rfl | exact Or.inr rfl) h) (dE_if (dT_cmpN (op_neD (hu64 hr)) ne_sem (pv 3) (dB_E (dE_lst dVs_nil)) (nomark _)) (dE_V (dV_nameV (pv 3))) (dE_lst (dVs_cons (dV_E (de_opS op_addA add_sem (dE_V dV_int) (dB_E (de_callC c__law_draw hr (by decide) rfl (dA_slot (pv 0) (dA_slot (pv 1) dA_nil)))))) dVs_nil))) (by decide))
    (dS_one (dS_ret (dE_callT call_tuple_of (Call1.op tuple_sem) rfl (T.m "tuple" (by decide)) PyProof.Rows.boot_tuple (dBs_cons (dB_E (dE_lc (W' := W0) (own := [("_law_variable", 4)]) rfl sc.nd (blkOk_by (by rfl)) (dI_seq (fun h => pi_list h) (fun h => pi_tup h) (dV_nameV (pv 3))) (fun s H C cl fp => (dG_name (pg_name sc.nd rfl (by first | exact Or.inl rfl | exact Or.inr rfl)))) (fun s H C cl fp => dTs_nil) (fun s H C cl fp => (dV_E (de_opN op_mulW mul_semI (pv 4) (dB_E (de_callC c__law_pick hr (by decide) rfl (dA_slot (pv 0) (dA_push (dE_lst (dVs_cons dV_int (dVs_cons (dV_neg dV_int) dVs_nil))) dA_nil))))))))) dBs_nil) (by decide) (by decide))))))), hm, F.kp, F.binds fun _ _ _ _ _ _ us hl => match us, hl with | [_, _, _], _ => rfl⟩

/-! ### _law_sorted(_law_numbers): slots 0 _law_numbers -/
abbrev s__law_sorted : Stmt := top 21
def d__law_sorted : MS :=
  (sRet (mCall (f1 tupleD) (mConsB true (mMap (fun o => ((none : Option Nat), o)) (mOp1 sortAbsO (mMap (fun o => ((none : Option Nat), o)) (mOp1 sortSetO (mNameB 0))))) (mPure []))))
def sem__law_sorted : Sem := semOf 1 1 [0] d__law_sorted
theorem sc__law_sorted : FnScope ["_law_numbers"] ["_law_numbers"] (defScope s__law_sorted) := ⟨rfl, rfl, rfl, by decide +kernel, rfl, by decide +kernel, by decide +kernel⟩
theorem ok__law_sorted {P : Program} {w : World} {K : PySem.W.Frag} {mg : Str → Option Value} {base : Heap} (T : Txt mg) {f : Addr} {fd : FuncData} (F : Fun K "_law_sorted" "_law_sorted" s__law_sorted f fd) (hm : mg "_law_sorted" = some (.ref f)) : Cal P w K mg base 1 "_law_sorted" ["_law_numbers"] sem__law_sorted :=
  ⟨f, fd, fn_D (k := 0) (N := ["_law_numbers"]) F sc__law_sorted (by decide) (fun cdv A outer s H E hr => have sc := sc__law_sorted
    (dS_one (dS_ret (dE_callT call_tuple_of (Call1.op tuple_sem) rfl (T.m "tuple" (by decide)) PyProof.Rows.boot_tuple (dBs_cons (dB_E (dE_sortAbs (fun _ h => pe_sortAbs rfl (T.m "sorted" (by decide)) rfl (T.m "abs" (by decide)) h) (dB_E (dE_sortSet (fun _ h => pe_callB (cr_sortedSet rfl) rfl (T.m "sorted" (by decide)) PyProof.Rows.boot_sorted h) (fun _ h => pe_callTy (cr_setLI rfl) rfl (T.m "set" (by decide)) PyProof.Rows.boot_set h) (dB_name (pv 0)))))) dBs_nil) (by decide) (by decide))))), hm, F.kp, F.binds fun _ _ _ _ _ _ us hl => match us, hl with | [_], _ => rfl⟩

/-! ### _law_resolved(_law_one, _law_two, _law_variable): slots 0 _law_one, 1 _law_two, 2 _law_variable, 3 _law_number, 4 _law_left, 5 _law_other -/
abbrev s__law_resolved : Stmt := top 22
def d__law_resolved : MS :=
  (sSeq (sFor (mBind (mMap O.toD (mLst (mCons (mNameV 2) (mCons (mNeg (mNameV 2)) (mPure []))))) seqD) (bName 3)
  (sIf (mAndT (mBl (mOpN 3 (inO false) (mNameB 0))) (mBl (mOpS (inO false) (mMap O.sh (mNeg (mNameV 3))) (mNameB 1)))) (sSeq (sAsg 4 (mOpS addD (mLc [5] (mBind (mNameV 0) seqD) (bName 5) (mBl (mOpN 5 neO (mNameB 3))) (mNameV 5)) (mMap (fun o => ((none : Option Nat), o)) (mLc [5] (mBind (mNameV 1) seqD) (bName 5) (mBl (mOpN 5 neO (mMap (fun d => ((none : Option Nat), O.sh d)) (mNeg (mNameV 3))))) (mNameV 5)))))
  (sRet (mIf (mBl (mOpS neO (mLc [5] (mBind (mNameV 4) seqD) (bName 5) (mBl (mOpS (inO false) (mMap O.sh (mNeg (mNameV 5))) (mNameB 4))) (mPure (.int 1))) (mMap (fun o => ((none : Option Nat), o)) (mLst (mPure []))))) (mMap O.sh (mPure .non)) (mCallF sem__law_sorted [some 4] (mHas 4 (mPure [])))))) sNext))
  (sRet (mMap O.sh (mPure .non))))
def sem__law_resolved : Sem := semOf 6 3 [0, 1, 2] d__law_resolved
theorem sc__law_resolved : FnScope ["_law_one", "_law_two", "_law_variable", "_law_number", "_law_left", "_law_other"] ["_law_one", "_law_two", "_law_variable"] (defScope s__law_resolved) := ⟨rfl, rfl, rfl, by decide +kernel, rfl, by decide +kernel, by decide +kernel⟩
theorem ok__law_resolved {P : Program} {w : World} {K : PySem.W.Frag} {mg : Str → Option Value} {base : Heap} (T : Txt mg) (c__law_sorted : Cal P w K mg base 1 "_law_sorted" ["_law_numbers"] sem__law_sorted) {f : Addr} {fd : FuncData} (F : Fun K "_law_resolved" "_law_resolved" s__law_resolved f fd) (hm : mg "_law_resolved" = some (.ref f)) : Cal P w K mg base 2 "_law_resolved" ["_law_one", "_law_two", "_law_variable"] sem__law_resolved :=
  ⟨f, fd, fn_D (k := 1) (N := ["_law_one", "_law_two", "_law_variable", "_law_number", "_law_left", "_law_other"]) F sc__law_resolved (by decide) (fun cdv A outer s H E hr => have sc := sc__law_resolved
    (dS_cons (dS_for (fun g tb hg hb => ps_for PassesOwn.never rfl (dI_seq (fun h => pi_list h) (fun h => pi_tup h) (dV_E (dE_lst (dVs_cons (dV_nameV (pv 2)) (dVs_cons (dV_neg (dV_nameV (pv 2))) dVs_nil))))) hg hb) (fun _ _ _ z => z) (dG_name (pg_name sc.nd rfl (by first | exact Or.inl rfl | exact Or.inr rfl)))
    (dS_one (dS_if (PW.pt (dT_and (dT_cmpN op_inA in_sem (pv 3) (dB_name (pv 0)) (by with_unfolding_all rfl)) (dT_and1 (dT_cmpS op_inA in_sem (dE_V (dV_neg (dV_nameV (pv 3)))) (dB_name (pv 1)) (by with_unfolding_all rfl))))) (dS_cons (dS_set (i := 4) (fun _ h => ps_set sc.nd rfl (by first | exact Or.inl rfl | exact Or.inr rfl) h) (de_opS op_addA add_sem (dE_lc (W' := W0) (own := [("_law_other", 5)]) rfl sc.nd (blkOk_by (by rfl)) (dI_seq (fun h => pi_list h) (fun h => pi_tup h) (dV_nameV (pv 0))) (fun s H C cl fp => (dG_name (pg_name sc.nd rfl (by first | exact Or.inl rfl | exact Or.inr rfl)))) (fun s H C cl fp => (dTs_one (dT_cmpN (op_neD (hu64 hr)) ne_sem (pv 5) (dB_name (pv 3)) (nomark _)))) (fun s H C cl fp => (dV_nameV (pv 5)))) (dB_E (dE_lc (W' := W0) (own := [("_law_other", 5)]) rfl sc.nd (blkOk_by (by rfl)) (dI_seq (fun h => pi_list h) (fun h => pi_tup h) (dV_nameV (pv 1))) (fun s H C cl fp => (dG_name (pg_name sc.nd rfl (by first | exact Or.inl rfl | exact Or.inr rfl)))) (fun s H C cl fp => (dTs_one (dT_cmpN (op_neD (hu64 hr)) ne_sem (pv 5) (dB_V (dV_neg (dV_nameV (pv 3)))) (nomark _)))) (fun s H C cl fp => (dV_nameV (pv 5)))))) (by decide))
    (dS_one (dS_ret (dE_if (dT_cmpS (op_neD (hu64 hr)) ne_sem (dE_lc (W' := W0) (own := [("_law_other", 5)]) rfl sc.nd (blkOk_by (by rfl)) (dI_seq (fun h => pi_list h) (fun h => pi_tup h) (dV_nameV (pv 4))) (fun s H C cl fp => (dG_name (pg_name sc.nd rfl (by first | exact Or.inl rfl | exact Or.inr rfl)))) (fun s H C cl fp => (dTs_one (dT_cmpS op_inA in_sem (dE_V (dV_neg (dV_nameV (pv 5)))) (dB_name (pv 4)) (by with_unfolding_all rfl)))) (fun s H C cl fp => dV_int)) (dB_E (dE_lst dVs_nil)) (nomark _)) (dE_V dV_non) (de_callC c__law_sorted hr (by decide) rfl (dA_slot (pv 4) dA_nil)))))) dS_nil)) (by decide))
    (dS_one (dS_ret (dE_V dV_non))))), hm, F.kp, F.binds fun _ _ _ _ _ _ us hl => match us, hl with | [_, _, _], _ => rfl⟩

/-! ### resolvent(one, other, variable): slots 0 one, 1 other, 2 variable, 3 left, 4 right, 5 found, 6 number -/
abbrev s_resolvent : Stmt := top 6
def d_resolvent : MS :=
  (sSeq (sIf (mAndT (mBl (mOpN 2 (inO false) (mNameB 0))) (mBl (mOpS (inO false) (mMap O.sh (mNeg (mNameV 2))) (mNameB 1)))) (sPar 3 4 (mConsO (mMap O.sh (mNameV 2)) (mConsO (mMap O.sh (mNeg (mNameV 2))) (mPure [])))) (sIf (mAndT (mBl (mOpS (inO false) (mMap O.sh (mNeg (mNameV 2))) (mNameB 0))) (mBl (mOpN 2 (inO false) (mNameB 1)))) (sPar 3 4 (mConsO (mMap O.sh (mNeg (mNameV 2))) (mConsO (mMap O.sh (mNameV 2)) (mPure [])))) (sRet (mMap O.sh (mPure .non)))))
  (sSeq (sAsg 5 (mOpS addD (mLc [6] (mBind (mNameV 0) seqD) (bName 6) (mBl (mOpN 6 neO (mNameB 3))) (mNameV 6)) (mMap (fun o => ((none : Option Nat), o)) (mLc [6] (mBind (mNameV 1) seqD) (bName 6) (mBl (mOpN 6 neO (mNameB 4))) (mNameV 6)))))
  (sSeq (sIf (mTru (mMap (fun o => ((none : Option Nat), o)) (mCall (f1 anyD) (mConsB true (mMap (fun o => ((none : Option Nat), o)) (mLc [6] (mBind (mNameV 5) seqD) (bName 6) (mPure true) (mMap O.toD (mOpS (inO false) (mMap O.sh (mNeg (mNameV 6))) (mNameB 5))))) (mPure []))))) (sRet (mMap O.sh (mPure .non))) sNext)
  (sRet (mCall (f1 tupleD) (mConsB true (mMap (fun o => ((none : Option Nat), o)) (mOp1 sortAbsO (mMap (fun o => ((none : Option Nat), o)) (mOp1 sortSetO (mNameB 5))))) (mPure [])))))))
def sem_resolvent : Sem := semOf 7 3 [0, 1, 2] d_resolvent
theorem sc_resolvent : FnScope ["one", "other", "variable", "left", "right", "found", "number"] ["one", "other", "variable"] (defScope s_resolvent) := ⟨rfl, rfl, rfl, by decide +kernel, rfl, by decide +kernel, by decide +kernel⟩
theorem ok_resolvent {P : Program} {w : World} {K : PySem.W.Frag} {mg : Str → Option Value} {base : Heap} (T : Txt mg) {f : Addr} {fd : FuncData} (F : Fun K "resolvent" "resolvent" s_resolvent f fd) (hm : mg "resolvent" = some (.ref f)) : Cal P w K mg base 1 "resolvent" ["one", "other", "variable"] sem_resolvent :=
  ⟨f, fd, fn_D (k := 0) (N := ["one", "other", "variable", "left", "right", "found", "number"]) F sc_resolvent (by decide) (fun cdv A outer s H E hr => have sc := sc_resolvent
    (dS_cons (dS_if (PW.pt (dT_and (dT_cmpN op_inA in_sem (pv 2) (dB_name (pv 0)) (by with_unfolding_all rfl)) (dT_and1 (dT_cmpS op_inA in_sem (dE_V (dV_neg (dV_nameV (pv 2)))) (dB_name (pv 1)) (by with_unfolding_all rfl))))) (dS_one (dS_parA (fun _ _ h g => ps_asg h g) (dEs_cons (dE_V (dV_nameV (pv 2))) (dEs_cons (dE_V (dV_neg (dV_nameV (pv 2)))) dEs_nil)) (pg_tup rfl (pgs_cons (pg_name (i := 3) sc.nd rfl (by first | exact Or.inl rfl | exact Or.inr rfl)) (pgs_cons (pg_name (i := 4) sc.nd rfl (by first | exact Or.inl rfl | exact Or.inr rfl)) pgs_nil))) (by decide) (by decide) (by decide))) (dS_one (dS_if (PW.pt (dT_and (dT_cmpS op_inA in_sem (dE_V (dV_neg (dV_nameV (pv 2)))) (dB_name (pv 0)) (by with_unfolding_all rfl)) (dT_and1 (dT_cmpN op_inA in_sem (pv 2) (dB_name (pv 1)) (by with_unfolding_all rfl))))) (dS_one (dS_parA (fun _ _ h g => ps_asg h g) (dEs_cons (dE_V (dV_neg (dV_nameV (pv 2)))) (dEs_cons (dE_V (dV_nameV (pv 2))) dEs_nil)) (pg_tup rfl (pgs_cons (pg_name (i := 3) sc.nd rfl (by first | exact Or.inl rfl | exact Or.inr rfl)) (pgs_cons (pg_name (i := 4) sc.nd rfl (by first | exact Or.inl rfl | exact Or.inr rfl)) pgs_nil))) (by decide) (by decide) (by decide))) (dS_one (dS_ret (dE_V dV_non))))))
    (dS_cons (dS_set (i := 5) (fun _ h => ps_set sc.nd rfl (by first | exact Or.inl rfl | exact Or.inr rfl) h) (de_opS op_addA add_sem (dE_lc (W' := W0) (own := [("number", 6)]) rfl sc.nd (blkOk_by (by rfl)) (dI_seq (fun h => pi_list h) (fun h => pi_tup h) (dV_nameV (pv 0))) (fun s H C cl fp => (dG_name (pg_name sc.nd rfl (by first | exact Or.inl rfl | exact Or.inr rfl)))) (fun s H C cl fp => (dTs_one (dT_cmpN (op_neD (hu64 hr)) ne_sem (pv 6) (dB_name (pv 3)) (nomark _)))) (fun s H C cl fp => (dV_nameV (pv 6)))) (dB_E (dE_lc (W' := W0) (own := [("number", 6)]) rfl sc.nd (blkOk_by (by rfl)) (dI_seq (fun h => pi_list h) (fun h => pi_tup h) (dV_nameV (pv 1))) (fun s H C cl fp => (dG_name (pg_name sc.nd rfl (by first | exact Or.inl rfl | exact Or.inr rfl)))) (fun s H C cl fp => (dTs_one (dT_cmpN (op_neD (hu64 hr)) ne_sem (pv 6) (dB_name (pv 4)) (nomark _)))) (fun s H C cl fp => (dV_nameV (pv 6)))))) (by decide))
    (dS_cons (dS_if (dT_tru (dB_E (dE_callB (cr_any rfl) (Call1.op any_sem) rfl (T.m "any" (by decide)) PyProof.Rows.boot_any (dBs_cons (dB_E (dE_lc (W' := W0) (own := [("number", 6)]) rfl sc.nd (blkOk_by (by rfl)) (dI_seq (fun h => pi_list h) (fun h => pi_tup h) (dV_nameV (pv 5))) (fun s H C cl fp => (dG_name (pg_name sc.nd rfl (by first | exact Or.inl rfl | exact Or.inr rfl)))) (fun s H C cl fp => dTs_nil) (fun s H C cl fp => (dV_E (de_cmpS op_inA in_sem (dE_V (dV_neg (dV_nameV (pv 6)))) (dB_name (pv 5)) (by with_unfolding_all rfl)))))) dBs_nil) (by decide) (by decide)))) (dS_one (dS_ret (dE_V dV_non))) dS_nil)
    (dS_one (dS_ret (dE_callT call_tuple_of (Call1.op tuple_sem) rfl (T.m "tuple" (by decide)) PyProof.Rows.boot_tuple (dBs_cons (dB_E (dE_sortAbs (fun _ h => pe_sortAbs rfl (T.m "sorted" (by decide)) rfl (T.m "abs" (by decide)) h) (dB_E (dE_sortSet (fun _ h => pe_callB (cr_sortedSet rfl) rfl (T.m "sorted" (by decide)) PyProof.Rows.boot_sorted h) (fun _ h => pe_callTy (cr_setLI rfl) rfl (T.m "set" (by decide)) PyProof.Rows.boot_set h) (dB_name (pv 5)))))) dBs_nil) (by decide) (by decide)))))))), hm, F.kp, F.binds fun _ _ _ _ _ _ us hl => match us, hl with | [_, _, _], _ => rfl⟩

/-! ### _law_drawn_row(_law_pen_here, _law_many, _law_rows_here): slots 0 _law_pen_here, 1 _law_many, 2 _law_rows_here, 3 _law_k -/
abbrev s__law_drawn_row : Stmt := top 20
def d__law_drawn_row : MS :=
  (sRet (mCall (f1 tupleD) (mConsB true (mMap (fun o => ((none : Option Nat), o)) (mLc [3] (mBind (mCons (mNameV 2) (mPure [])) rng1) (bName 3) (mPure true) (mMap O.toD (mCallF sem__law_drawn_clause [some 0, some 1, none] (mHas 0 (mHas 1 (mConsO (mCallF sem__law_pick [some 0, none] (mHas 0 (mConsO (mLst (mCons (mPure (.int 1)) (mCons (mPure (.int 2)) (mCons (mPure (.int 2)) (mCons (mPure (.int 3)) (mPure [])))))) (mPure [])))) (mPure [])))))))) (mPure []))))
def sem__law_drawn_row : Sem := semOf 4 3 [0, 1, 2] d__law_drawn_row
theorem sc__law_drawn_row : FnScope ["_law_pen_here", "_law_many", "_law_rows_here", "_law_k"] ["_law_pen_here", "_law_many", "_law_rows_here"] (defScope s__law_drawn_row) := ⟨rfl, rfl, rfl, by decide +kernel, rfl, by decide +kernel, by decide +kernel⟩
theorem ok__law_drawn_row {P : Program} {w : World} {K : PySem.W.Frag} {mg : Str → Option Value} {base : Heap} (T : Txt mg) (c__law_drawn_clause : Cal P w K mg base 3 "_law_drawn_clause" ["_law_pen_here", "_law_many", "_law_most"] sem__law_drawn_clause) (c__law_pick : Cal P w K mg base 2 "_law_pick" ["_law_pen_here", "_law_some"] sem__law_pick) {f : Addr} {fd : FuncData} (F : Fun K "_law_drawn_row" "_law_drawn_row" s__law_drawn_row f fd) (hm : mg "_law_drawn_row" = some (.ref f)) : Cal P w K mg base 4 "_law_drawn_row" ["_law_pen_here", "_law_many", "_law_rows_here"] sem__law_drawn_row :=
  ⟨f, fd, fn_D (k := 3) (N := ["_law_pen_here", "_law_many", "_law_rows_here", "_law_k"]) F sc__law_drawn_row (by decide) (fun cdv A outer s H E hr => have sc := sc__law_drawn_row
    (dS_one (dS_ret (dE_callT call_tuple_of (Call1.op tuple_sem) rfl (T.m "tuple" (by decide)) PyProof.Rows.boot_tuple (dBs_cons (dB_E (dE_lc (W' := W0) (own := [("_law_k", 3)]) rfl sc.nd (blkOk_by (by rfl)) (dI_rng1 (pi_range1 rfl (T.m "range" (by decide)) (dVs_cons (dV_nameV (pv 2)) dVs_nil))) (fun s H C cl fp => (dG_name (pg_name sc.nd rfl (by first | exact Or.inl rfl | exact Or.inr rfl)))) (fun s H C cl fp => dTs_nil) (fun s H C cl fp => (dV_E (de_callC c__law_drawn_clause hr (by decide) rfl (dA_slot (pv 0) (dA_slot (pv 1) (dA_push (de_callC c__law_pick hr (by decide) rfl (dA_slot (pv 0) (dA_push (dE_lst (dVs_cons dV_int (dVs_cons dV_int (dVs_cons dV_int (dVs_cons dV_int dVs_nil))))) dA_nil))) dA_nil)))))))) dBs_nil) (by decide) (by decide))))), hm, F.kp, F.binds fun _ _ _ _ _ _ us hl => match us, hl with | [_, _, _], _ => rfl⟩

/-! ### _law_is_whole(_law_thing): slots 0 _law_thing -/
abbrev s__law_is_whole : Stmt := top 16
-- d__law_is_whole, sem__law_is_whole: the shared ones
theorem sc__law_is_whole : FnScope ["_law_thing"] ["_law_thing"] (defScope s__law_is_whole) := ⟨rfl, rfl, rfl, by decide +kernel, rfl, by decide +kernel, by decide +kernel⟩
theorem ok__law_is_whole {P : Program} {w : World} {K : PySem.W.Frag} {mg : Str → Option Value} {base : Heap} (T : Txt mg) {f : Addr} {fd : FuncData} (F : Fun K "_law_is_whole" "_law_is_whole" s__law_is_whole f fd) (hm : mg "_law_is_whole" = some (.ref f)) : Cal P w K mg base 1 "_law_is_whole" ["_law_thing"] sem__law_is_whole :=
  ⟨f, fd, fn_D (k := 0) (N := ["_law_thing"]) F sc__law_is_whole (by decide) (fun cdv A outer s H E hr => have sc := sc__law_is_whole
    (dS_one (dS_ret (dE_V (dV_and (dV_isi1 (fun _ h => (pe_callB call_isi rfl (T.m "isinstance" (by decide)) PyProof.Rows.boot_isinstance h)) (dB_name (pv 0)) (pe_bltn rfl (T.m "int" (by decide)) PyProof.Rows.boot_int rfl)) (dV_one (dV_not (dB_V (dV_isi1 (fun _ h => (pe_callB call_isi rfl (T.m "isinstance" (by decide)) PyProof.Rows.boot_isinstance h)) (dB_name (pv 0)) (pe_bltn rfl (T.m "bool" (by decide)) PyProof.Rows.boot_bool rfl)))))))))), hm, F.kp, F.binds fun _ _ _ _ _ _ us hl => match us, hl with | [_], _ => rfl⟩

/-! ### _law_is_index(_law_thing, _law_many): slots 0 _law_thing, 1 _law_many -/
abbrev s__law_is_index : Stmt := top 24
def d__law_is_index : MS :=
  (sRet (mMap O.sh (mAndV (mMap O.toD (mCallF sem__law_is_whole [some 0] (mHas 0 (mPure [])))) (mMap D.bl (mChain (liftB fun i j => decide (i ≤ j)) (liftB fun i j => decide (i < j)) (mPure (.int 0)) (mNameV 0) (mNameV 1))))))
def sem__law_is_index : Sem := semOf 2 2 [0, 1] d__law_is_index
theorem sc__law_is_index : FnScope ["_law_thing", "_law_many"] ["_law_thing", "_law_many"] (defScope s__law_is_index) := ⟨rfl, rfl, rfl, by decide +kernel, rfl, by decide +kernel, by decide +kernel⟩
theorem ok__law_is_index {P : Program} {w : World} {K : PySem.W.Frag} {mg : Str → Option Value} {base : Heap} (T : Txt mg) (c__law_is_whole : Cal P w K mg base 1 "_law_is_whole" ["_law_thing"] sem__law_is_whole) {f : Addr} {fd : FuncData} (F : Fun K "_law_is_index" "_law_is_index" s__law_is_index f fd) (hm : mg "_law_is_index" = some (.ref f)) : Cal P w K mg base 2 "_law_is_index" ["_law_thing", "_law_many"] sem__law_is_index :=
  ⟨f, fd, fn_D (k := 1) (N := ["_law_thing", "_law_many"]) F sc__law_is_index (by decide) (fun cdv A outer s H E hr => have sc := sc__law_is_index
    (dS_one (dS_ret (dE_V (dV_and (dV_E (de_callC c__law_is_whole hr (by decide) rfl (dA_slot (pv 0) dA_nil))) (dV_one (dV_chain op_le le_sem op_lt lt_sem dV_int (dV_nameV (pv 0)) (dV_nameV (pv 1))))))))), hm, F.kp, F.binds fun _ _ _ _ _ _ us hl => match us, hl with | [_, _], _ => rfl⟩

/-! ### _law_line_of(_law_clauses, _law_ahead, _law_line): slots 0 _law_clauses, 1 _law_ahead, 2 _law_line, 3 _law_found, 4 _law_pair -/
abbrev s__law_line_of : Stmt := top 23
def d__law_line_of : MS :=
  (sSeq (sIf (mOrT (mMap (fun b => !b) (mTru (mMap (fun d => ((none : Option Nat), O.sh d)) (mIsi ["tuple"] (mNameB 2))))) (mOrT (mBl (mOpS eqO (mCall (f1 lenD) (mConsB true (mNameB 2) (mPure []))) (mMap (fun d => ((none : Option Nat), O.sh d)) (mPure (.int 0))))) (mBl (mOpS (inO true) (mMap O.sh (mBind (mSubN 2 (mPure (.int 0))) asSh)) (mMap (fun o => ((none : Option Nat), o)) (mLst (mCons (mPure (.str "given")) (mCons (mPure (.str "chain")) (mPure []))))))))) (sRet (mMap O.sh (mPure .non))) sNext)
  (sSeq (sIf (mMap (fun b => !b) (mTru (mMap (fun o => ((none : Option Nat), o)) (mCallF sem__law_is_index [none, none] (mConsO (mIf (mBl (mOpS (liftB fun i j => decide (j < i)) (mCall (f1 lenD) (mConsB true (mNameB 2) (mPure []))) (mMap (fun d => ((none : Option Nat), O.sh d)) (mPure (.int 1))))) (mMap O.sh (mBind (mSubN 2 (mPure (.int 1))) asSh)) (mMap O.sh (mPure .non))) (mConsO (mIf (mBl (mOpS eqO (mMap O.sh (mBind (mSubN 2 (mPure (.int 0))) asSh)) (mMap (fun d => ((none : Option Nat), O.sh d)) (mPure (.str "given"))))) (mCall (f1 lenD) (mConsB true (mNameB 0) (mPure []))) (mCall (f1 lenD) (mConsB true (mNameB 1) (mPure [])))) (mPure []))))))) (sRet (mMap O.sh (mPure .non))) sNext)
  (sSeq (sIf (mBl (mOpS eqO (mMap O.sh (mBind (mSubN 2 (mPure (.int 0))) asSh)) (mMap (fun d => ((none : Option Nat), O.sh d)) (mPure (.str "given"))))) (sRet (mIf (mBl (mOpS eqO (mCall (f1 lenD) (mConsB true (mNameB 2) (mPure []))) (mMap (fun d => ((none : Option Nat), O.sh d)) (mPure (.int 2))))) (mMap O.sh (mBind (mSubN 0 (mBind (mSubN 2 (mPure (.int 1))) asSh)) asSh)) (mMap O.sh (mPure .non)))) sNext)
  (sSeq (sIf (mOrT (mBl (mOpS neO (mCall (f1 lenD) (mConsB true (mNameB 2) (mPure []))) (mMap (fun d => ((none : Option Nat), O.sh d)) (mPure (.int 3))))) (mOrT (mMap (fun b => !b) (mTru (mMap (fun d => ((none : Option Nat), O.sh d)) (mIsi ["tuple"] (mSubN 2 (mPure (.int 2))))))) (mBl (mOpS eqO (mMap O.sh (mBind (mSubN 2 (mPure (.int 2))) asSh)) (mMap (fun d => ((none : Option Nat), O.sh d)) (mTup (mPure []))))))) (sRet (mMap O.sh (mPure .non))) sNext)
  (sSeq (sAsg 3 (mMap O.sh (mBind (mSubN 1 (mBind (mSubN 2 (mPure (.int 1))) asSh)) asSh)))
  (sSeq (sFor (mBind (mBind (mSubN 2 (mPure (.int 2))) asSh) seqD) (bName 4)
  (sSeq (sIf (mOrT (mMap (fun b => !b) (mTru (mMap (fun d => ((none : Option Nat), O.sh d)) (mIsi ["tuple"] (mNameB 4))))) (mOrT (mBl (mOpS neO (mCall (f1 lenD) (mConsB true (mNameB 4) (mPure []))) (mMap (fun d => ((none : Option Nat), O.sh d)) (mPure (.int 2))))) (mOrT (mMap (fun b => !b) (mTru (mMap (fun o => ((none : Option Nat), o)) (mCallF sem__law_is_whole [none] (mConsO (mMap O.sh (mBind (mSubN 4 (mPure (.int 0))) asSh)) (mPure [])))))) (mBl (mOpS (liftB fun i j => decide (i < j)) (mMap O.sh (mBind (mSubN 4 (mPure (.int 0))) asSh)) (mMap (fun d => ((none : Option Nat), O.sh d)) (mPure (.int 1)))))))) (sRet (mMap O.sh (mPure .non))) sNext)
  (sSeq (sIf (mMap (fun b => !b) (mTru (mMap (fun o => ((none : Option Nat), o)) (mCallF sem__law_is_index [none, none] (mConsO (mMap O.sh (mBind (mSubN 4 (mPure (.int 1))) asSh)) (mConsO (mCall (f1 lenD) (mConsB true (mNameB 1) (mPure []))) (mPure []))))))) (sRet (mMap O.sh (mPure .non))) sNext)
  (sSeq (sAsg 3 (mCallF sem__law_resolved [some 3, none, none] (mHas 3 (mConsO (mMap O.sh (mBind (mSubN 1 (mBind (mSubN 4 (mPure (.int 1))) asSh)) asSh)) (mConsO (mMap O.sh (mBind (mSubN 4 (mPure (.int 0))) asSh)) (mPure []))))))
  (sIf (mBl (mOpN 3 isO (mMap (fun d => ((none : Option Nat), O.sh d)) (mPure .non)))) (sRet (mMap O.sh (mPure .non))) sNext)))))
  (sRet (mNameM 3))))))))
def sem__law_line_of : Sem := semOf 5 3 [0, 1, 2] d__law_line_of
theorem sc__law_line_of : FnScope ["_law_clauses", "_law_ahead", "_law_line", "_law_found", "_law_pair"] ["_law_clauses", "_law_ahead", "_law_line"] (defScope s__law_line_of) := ⟨rfl, rfl, rfl, by decide +kernel, rfl, by decide +kernel, by decide +kernel⟩
theorem ok__law_line_of {P : Program} {w : World} {K : PySem.W.Frag} {mg : Str → Option Value} {base : Heap} (T : Txt mg) (c__law_is_index : Cal P w K mg base 2 "_law_is_index" ["_law_thing", "_law_many"] sem__law_is_index) (c__law_is_whole : Cal P w K mg base 1 "_law_is_whole" ["_law_thing"] sem__law_is_whole) (c__law_resolved : Cal P w K mg base 2 "_law_resolved" ["_law_one", "_law_two", "_law_variable"] sem__law_resolved) {f : Addr} {fd : FuncData} (F : Fun K "_law_line_of" "_law_line_of" s__law_line_of f fd) (hm : mg "_law_line_of" = some (.ref f)) : Cal P w K mg base 3 "_law_line_of" ["_law_clauses", "_law_ahead", "_law_line"] sem__law_line_of :=
  ⟨f, fd, fn_D (k := 2) (N := ["_law_clauses", "_law_ahead", "_law_line", "_law_found", "_law_pair"]) F sc__law_line_of (by decide) (fun cdv A outer s H E hr => have sc := sc__law_line_of
    (dS_cons (dS_if (PW.pt (dT_or (dT_not (dT_tru (dB_V (dV_isi1 (fun _ h => (pe_callB call_isi rfl (T.m "isinstance" (by decide)) PyProof.Rows.boot_isinstance h)) (dB_name (pv 2)) (pe_bltn rfl (T.m "tuple" (by decide)) PyProof.Rows.boot_tuple rfl))))) (dT_or (dT_cmpS (op_eqD (hu64 hr)) eq_sem (dE_callB call_lenA (Call1.op len_sem) rfl (T.m "len" (by decide)) PySem.boot_len (dBs_cons (dB_name (pv 2)) dBs_nil) (by decide) (by decide)) (dB_V dV_int) (nomark _)) (dT_or1 (dT_cmpS op_ninA in_sem (dE_V (dV_B (dB_subN (hu_of hr) (pv 2) dV_int (by intro _ _; rfl) (by intro _ _; rfl)))) (dB_E (dE_lst (dVs_cons dV_str (dVs_cons dV_str dVs_nil)))) (by with_unfolding_all rfl)))))) (dS_one (dS_ret (dE_V dV_non))) dS_nil)
    (dS_cons (dS_if (dT_not (dT_tru (dB_E (de_callC c__law_is_index hr (by decide) rfl (dA_push (dE_if (dT_cmpS op_gt gt_sem (dE_callB call_lenA (Call1.op len_sem) rfl (T.m "len" (by decide)) PySem.boot_len (dBs_cons (dB_name (pv 2)) dBs_nil) (by decide) (by decide)) (dB_V dV_int) (nomark _)) (dE_V (dV_B (dB_subN (hu_of hr) (pv 2) dV_int (by intro _ _; rfl) (by intro _ _; rfl)))) (dE_V dV_non)) (dA_push (dE_if (dT_cmpS (op_eqD (hu64 hr)) eq_sem (dE_V (dV_B (dB_subN (hu_of hr) (pv 2) dV_int (by intro _ _; rfl) (by intro _ _; rfl)))) (dB_V dV_str) (nomark _)) (dE_callB call_lenA (Call1.op len_sem) rfl (T.m "len" (by decide)) PySem.boot_len (dBs_cons (dB_name (pv 0)) dBs_nil) (by decide) (by decide)) (dE_callB call_lenA (Call1.op len_sem) rfl (T.m "len" (by decide)) PySem.boot_len (dBs_cons (dB_name (pv 1)) dBs_nil) (by decide) (by decide))) dA_nil)))))) (dS_one (dS_ret (dE_V dV_non))) dS_nil)
    (dS_cons (dS_if (dT_cmpS (op_eqD (hu64 hr)) eq_sem (dE_V (dV_B (dB_subN (hu_of hr) (pv 2) dV_int (by intro _ _; rfl) (by intro _ _; rfl)))) (dB_V dV_str) (nomark _)) (dS_one (dS_ret (dE_if (dT_cmpS (op_eqD (hu64 hr)) eq_sem (dE_callB call_lenA (Call1.op len_sem) rfl (T.m "len" (by decide)) PySem.boot_len (dBs_cons (dB_name (pv 2)) dBs_nil) (by decide) (by decide)) (dB_V dV_int) (nomark _)) (dE_V (dV_B (dB_subN (hu_of hr) (pv 0) (dV_B (dB_subN (hu_of hr) (pv 2) dV_int (by intro _ _; rfl) (by intro _ _; rfl))) (by intro _ _; rfl) (by intro _ _; rfl)))) (dE_V dV_non)))) dS_nil)
    (dS_cons (dS_if (PW.pt (dT_or (dT_cmpS (op_neD (hu64 hr)) ne_sem (dE_callB call_lenA (Call1.op len_sem) rfl (T.m "len" (by decide)) PySem.boot_len (dBs_cons (dB_name (pv 2)) dBs_nil) (by decide) (by decide)) (dB_V dV_int) (nomark _)) (dT_or (dT_not (dT_tru (dB_V (dV_isi1 (fun _ h => (pe_callB call_isi rfl (T.m "isinstance" (by decide)) PyProof.Rows.boot_isinstance h)) (dB_subN (hu_of hr) (pv 2) dV_int (by intro _ _; rfl) (by intro _ _; rfl)) (pe_bltn rfl (T.m "tuple" (by decide)) PyProof.Rows.boot_tuple rfl))))) (dT_or1 (dT_cmpS (op_eqD (hu64 hr)) eq_sem (dE_V (dV_B (dB_subN (hu_of hr) (pv 2) dV_int (by intro _ _; rfl) (by intro _ _; rfl)))) (dB_V (dV_tup dVs_nil)) (nomark _)))))) (dS_one (dS_ret (dE_V dV_non))) dS_nil)
    (dS_cons (dS_set (i := 3) (fun _ h => ps_set sc.nd rfl (by first | exact Or.inl rfl | exact Or.inr rfl) h) (dE_V (dV_B (dB_subN (hu_of hr) (pv 1) (dV_B (dB_subN (hu_of hr) (pv 2) dV_int (by intro _ _; rfl) (by intro _ _; rfl))) (by intro _ _; rfl) (by intro _ _; rfl)))) (by decide))
    (dS_cons (dS_for (fun g tb hg hb => ps_for PassesOwn.never rfl (dI_seq (fun h => pi_list h) (fun h => pi_tup h) (dV_B (dB_subN (hu_of hr) (pv 2) dV_int (by intro _ _; rfl) (by intro _ _; rfl)))) hg hb) (fun _ _ _ z => z) (dG_name (pg_name sc.nd rfl (by first | exact Or.inl rfl | exact Or.inr rfl)))
    (dS_cons (dS_if (PW.pt (dT_or (dT_not (dT_tru (dB_V (dV_isi1 (fun _ h => (pe_callB call_isi rfl (T.m "isinstance" (by decide)) PyProof.Rows.boot_isinstance h)) (dB_name (pv 4)) (pe_bltn rfl (T.m "tuple" (by decide)) PyProof.Rows.boot_tuple rfl))))) (dT_or (dT_cmpS (op_neD (hu64 hr)) ne_sem (dE_callB call_lenA (Call1.op len_sem) rfl (T.m "len" (by decide)) PySem.boot_len (dBs_cons (dB_name (pv 4)) dBs_nil) (by decide) (by decide)) (dB_V dV_int) (nomark _)) (dT_or (dT_not (dT_tru (dB_E (de_callC c__law_is_whole hr (by decide) rfl (dA_push (dE_V (dV_B (dB_subN (hu_of hr) (pv 4) dV_int (by intro _ _; rfl) (by intro _ _; rfl)))) dA_nil))))) (dT_or1 (dT_cmpS op_lt lt_sem (dE_V (dV_B (dB_subN (hu_of hr) (pv 4) dV_int (by intro _ _; rfl) (by intro _ _; rfl)))) (dB_V dV_int) (nomark _))))))) (dS_one (dS_ret (dE_V dV_non))) dS_nil)
    (dS_cons (dS_if (dT_not (dT_tru (dB_E (de_callC c__law_is_index hr (by decide) rfl (dA_push (dE_V (dV_B (dB_subN (hu_of hr) (pv 4) dV_int (by intro _ _; rfl) (by intro _ _; rfl)))) (dA_push (dE_callB call_lenA (Call1.op len_sem) rfl (T.m "len" (by decide)) PySem.boot_len (dBs_cons (dB_name (pv 1)) dBs_nil) (by decide) (by decide)) dA_nil)))))) (dS_one (dS_ret (dE_V dV_non))) dS_nil)
    (dS_cons (dS_set (i := 3) (fun _ h => ps_set sc.nd rfl (by first | exact Or.inl rfl | exact Or.inr rfl) h) (de_callC c__law_resolved hr (by decide) rfl (dA_slot (pv 3) (dA_push (dE_V (dV_B (dB_subN (hu_of hr) (pv 1) (dV_B (dB_subN (hu_of hr) (pv 4) dV_int (by intro _ _; rfl) (by intro _ _; rfl))) (by intro _ _; rfl) (by intro _ _; rfl)))) (dA_push (dE_V (dV_B (dB_subN (hu_of hr) (pv 4) dV_int (by intro _ _; rfl) (by intro _ _; rfl)))) dA_nil)))) (by decide))
    (dS_one (dS_if (dT_cmpN op_isA is_sem (pv 3) (dB_V dV_non) (nomark _)) (dS_one (dS_ret (dE_V dV_non))) dS_nil))))) (by decide))
    (dS_one (dS_ret (dE_nameM (pv 3))))))))))), hm, F.kp, F.binds fun _ _ _ _ _ _ us hl => match us, hl with | [_, _, _], _ => rfl⟩

/-! ### _law_line_clauses(_law_clauses, _law_lines): slots 0 _law_clauses, 1 _law_lines, 2 _law_found, 3 _law_line, 4 _law_clause -/
abbrev s__law_line_clauses : Stmt := top 25
def d__law_line_clauses : MS :=
  (sSeq (sIf (mMap (fun b => !b) (mTru (mMap (fun d => ((none : Option Nat), O.sh d)) (mIsi ["tuple"] (mNameB 1))))) (sRet (mMap O.sh (mPure .non))) sNext)
  (sSeq (sAsg 2 (mLst (mPure [])))
  (sSeq (sFor (mBind (mNameV 1) seqD) (bName 3)
  (sSeq (sAsg 4 (mCallF sem__law_line_of [some 0, some 2, some 3] (mHas 0 (mHas 2 (mHas 3 (mPure []))))))
  (sSeq (sIf (mBl (mOpN 4 isO (mMap (fun d => ((none : Option Nat), O.sh d)) (mPure .non)))) (sRet (mMap O.sh (mPure .non))) sNext)
  (sApp 2 (mNameV 4)))))
  (sRet (mCall (f1 tupleD) (mConsB true (mNameB 2) (mPure [])))))))
def sem__law_line_clauses : Sem := semOf 5 2 [0, 1] d__law_line_clauses
theorem sc__law_line_clauses : FnScope ["_law_clauses", "_law_lines", "_law_found", "_law_line", "_law_clause"] ["_law_clauses", "_law_lines"] (defScope s__law_line_clauses) := ⟨rfl, rfl, rfl, by decide +kernel, rfl, by decide +kernel, by decide +kernel⟩
theorem ok__law_line_clauses {P : Program} {w : World} {K : PySem.W.Frag} {mg : Str → Option Value} {base : Heap} (T : Txt mg) (c__law_line_of : Cal P w K mg base 3 "_law_line_of" ["_law_clauses", "_law_ahead", "_law_line"] sem__law_line_of) {f : Addr} {fd : FuncData} (F : Fun K "_law_line_clauses" "_law_line_clauses" s__law_line_clauses f fd) (hm : mg "_law_line_clauses" = some (.ref f)) : Cal P w K mg base 4 "_law_line_clauses" ["_law_clauses", "_law_lines"] sem__law_line_clauses :=
  ⟨f, fd, fn_D (k := 3) (N := ["_law_clauses", "_law_lines", "_law_found", "_law_line", "_law_clause"]) F sc__law_line_clauses (by decide) (fun cdv A outer s H E hr => have sc := sc__law_line_clauses
    (dS_cons (dS_if (dT_not (dT_tru (dB_V (dV_isi1 (fun _ h => (pe_callB call_isi rfl (T.m "isinstance" (by decide)) PyProof.Rows.boot_isinstance h)) (dB_name (pv 1)) (pe_bltn rfl (T.m "tuple" (by decide)) PyProof.Rows.boot_tuple rfl))))) (dS_one (dS_ret (dE_V dV_non))) dS_nil)
    (dS_cons (dS_set (i := 2) (fun _ h => ps_set sc.nd rfl (by first | exact Or.inl rfl | exact Or.inr rfl) h) (dE_lst dVs_nil) (by decide))
    (dS_cons (dS_for (fun g tb hg hb => ps_for PassesOwn.never rfl (dI_seq (fun h => pi_list h) (fun h => pi_tup h) (dV_nameV (pv 1))) hg hb) (fun _ _ _ z => z) (dG_name (pg_name sc.nd rfl (by first | exact Or.inl rfl | exact Or.inr rfl)))
    (dS_cons (dS_set (i := 4) (fun _ h => ps_set sc.nd rfl (by first | exact Or.inl rfl | exact Or.inr rfl) h) (de_callC c__law_line_of hr (by decide) rfl (dA_slot (pv 0) (dA_slot (pv 2) (dA_slot (pv 3) dA_nil)))) (by decide))
    (dS_cons (dS_if (dT_cmpN op_isA is_sem (pv 4) (dB_V dV_non) (nomark _)) (dS_one (dS_ret (dE_V dV_non))) dS_nil)
    (dS_one (dS_app (i := 2) (fun _ h => ps_expr (pe_bm PySem.F.plainAttrs_list PySem.F.slot_list_append PySem.F.type_list_append mt_append (pv 2) h)) (dV_nameV (pv 4)))))) (by decide))
    (dS_one (dS_ret (dE_callT call_tuple_of (Call1.op tuple_sem) rfl (T.m "tuple" (by decide)) PyProof.Rows.boot_tuple (dBs_cons (dB_name (pv 2)) dBs_nil) (by decide) (by decide)))))))), hm, F.kp, F.binds fun _ _ _ _ _ _ us hl => match us, hl with | [_, _], _ => rfl⟩

/-! ### _law_drawn_lines(_law_pen_here, _law_clauses, _law_many): slots 0 _law_pen_here, 1 _law_clauses, 2 _law_many, 3 _law_lines, 4 _law_found, 5 _law_lap, 6 _law_first, 7 _law_clause, 8 _law_steps, 9 _law_turn, 10 _law_ways, 11 _law_k, 12 _law_some, 13 _law_number, 14 _law_one -/
abbrev s__law_drawn_lines : Stmt := top 28
def d__law_drawn_lines : MS :=
  (sSeq (sPar 3 4 (mConsO (mLst (mCons (mTup (mCons (mPure (.str "given")) (mCons (mMap O.toD (mCallF sem__law_draw [some 0, none] (mHas 0 (mConsO (mCall (f1 lenD) (mConsB true (mNameB 1) (mPure []))) (mPure []))))) (mPure [])))) (mPure []))) (mConsO (mLst (mPure [])) (mPure []))))
  (sSeq (sFor (mBind (mCons (mNameV 2) (mPure [])) rng1) (bName 5)
  (sSeq (sAsg 4 (mCallF sem__law_line_clauses [some 1, none] (mHas 1 (mConsO (mCall (f1 tupleD) (mConsB true (mNameB 3) (mPure []))) (mPure [])))))
  (sSeq (sIf (mOrT (mBl (mOpS eqO (mCallF sem__law_draw [some 0, none] (mHas 0 (mConsO (mMap O.sh (mPure (.int 3))) (mPure [])))) (mMap (fun d => ((none : Option Nat), O.sh d)) (mPure (.int 0))))) (mBl (mOpS (liftB fun i j => decide (i < j)) (mCall (f1 lenD) (mConsB true (mNameB 3) (mPure []))) (mMap (fun d => ((none : Option Nat), O.sh d)) (mPure (.int 3)))))) (sSeq (sApp 3 (mTup (mCons (mPure (.str "given")) (mCons (mMap O.toD (mCallF sem__law_draw [some 0, none] (mHas 0 (mConsO (mCall (f1 lenD) (mConsB true (mNameB 1) (mPure []))) (mPure []))))) (mPure [])))))
  sCont) sNext)
  (sSeq (sAsg 6 (mCallF sem__law_draw [some 0, none] (mHas 0 (mConsO (mCall (f1 lenD) (mConsB true (mNameB 3) (mPure []))) (mPure [])))))
  (sSeq (sPar 7 8 (mConsO (mMap O.sh (mBind (mSubN 4 (mNameV 6)) asSh)) (mConsO (mLst (mPure [])) (mPure []))))
  (sSeq (sFor (mBind (mCons (mMap O.toD (mOpS addD (mMap O.sh (mPure (.int 1))) (mMap (fun o => ((none : Option Nat), o)) (mCallF sem__law_draw [some 0, none] (mHas 0 (mConsO (mMap O.sh (mPure (.int 3))) (mPure []))))))) (mPure [])) rng1) (bName 9)
  (sSeq (sAsg 10 (mLst (mPure [])))
  (sSeq (sFor (mBind (mCons (mMap O.toD (mCall (f1 lenD) (mConsB true (mNameB 3) (mPure [])))) (mPure [])) rng1) (bName 11)
  (sSeq (sAsg 12 (mLc [13] (mBind (mNameV 7) seqD) (bName 13) (mBl (mOpS (inO false) (mMap O.sh (mNeg (mNameV 13))) (mSubN 4 (mNameV 11)))) (mMap O.toD (mCall (f1 absD) (mConsB true (mNameB 13) (mPure []))))))
  (sAsg 10 (mOpN 10 addD (mMap (fun o => ((none : Option Nat), o)) (mLc [14] (mBind (mNameV 12) seqD) (bName 14) (mBl (mOpS isnO (mCallF sem__law_resolved [some 7, none, some 14] (mHas 7 (mConsO (mMap O.sh (mBind (mSubN 4 (mNameV 11)) asSh)) (mHas 14 (mPure []))))) (mMap (fun d => ((none : Option Nat), O.sh d)) (mPure .non)))) (mTup (mCons (mNameV 14) (mCons (mNameV 11) (mPure []))))))))))
  (sIf (mBl (mOpN 10 neO (mMap (fun o => ((none : Option Nat), o)) (mLst (mPure []))))) (sSeq (sApp 8 (mMap O.toD (mCallF sem__law_pick [some 0, some 10] (mHas 0 (mHas 10 (mPure []))))))
  (sAsg 7 (mCallF sem__law_resolved [some 7, none, none] (mHas 7 (mConsO (mMap O.sh (mBind (mSubN 4 (mBind (mSub false (mSubN 8 (mNeg (mPure (.int 1)))) (mPure (.int 1))) asSh)) asSh)) (mConsO (mMap O.sh (mBind (mSub false (mSubN 8 (mNeg (mPure (.int 1)))) (mPure (.int 0))) asSh)) (mPure []))))))) sNext))))
  (sIf (mBl (mOpN 8 neO (mMap (fun o => ((none : Option Nat), o)) (mLst (mPure []))))) (sApp 3 (mTup (mCons (mPure (.str "chain")) (mCons (mNameV 6) (mCons (mMap O.toD (mCall (f1 tupleD) (mConsB true (mNameB 8) (mPure [])))) (mPure [])))))) sNext)))))))
  (sRet (mCall (f1 tupleD) (mConsB true (mNameB 3) (mPure []))))))
def sem__law_drawn_lines : Sem := semOf 15 3 [0, 1, 2] d__law_drawn_lines
theorem sc__law_drawn_lines : FnScope ["_law_pen_here", "_law_clauses", "_law_many", "_law_lines", "_law_found", "_law_lap", "_law_first", "_law_clause", "_law_steps", "_law_turn", "_law_ways", "_law_k", "_law_some", "_law_number", "_law_one"] ["_law_pen_here", "_law_clauses", "_law_many"] (defScope s__law_drawn_lines) := ⟨rfl, rfl, rfl, by decide +kernel, rfl, by decide +kernel, by decide +kernel⟩
theorem ok__law_drawn_lines {P : Program} {w : World} {K : PySem.W.Frag} {mg : Str → Option Value} {base : Heap} (T : Txt mg) (c__law_draw : Cal P w K mg base 1 "_law_draw" ["_law_pen_here", "_law_many"] sem__law_draw) (c__law_line_clauses : Cal P w K mg base 4 "_law_line_clauses" ["_law_clauses", "_law_lines"] sem__law_line_clauses) (c__law_resolved : Cal P w K mg base 2 "_law_resolved" ["_law_one", "_law_two", "_law_variable"] sem__law_resolved) (c__law_pick : Cal P w K mg base 2 "_law_pick" ["_law_pen_here", "_law_some"] sem__law_pick) {f : Addr} {fd : FuncData} (F : Fun K "_law_drawn_lines" "_law_drawn_lines" s__law_drawn_lines f fd) (hm : mg "_law_drawn_lines" = some (.ref f)) : Cal P w K mg base 5 "_law_drawn_lines" ["_law_pen_here", "_law_clauses", "_law_many"] sem__law_drawn_lines :=
  ⟨f, fd, fn_D (k := 4) (N := ["_law_pen_here", "_law_clauses", "_law_many", "_law_lines", "_law_found", "_law_lap", "_law_first", "_law_clause", "_law_steps", "_law_turn", "_law_ways", "_law_k", "_law_some", "_law_number", "_law_one"]) F sc__law_drawn_lines (by decide) (fun cdv A outer s H E hr => have sc := sc__law_drawn_lines
    (dS_cons (dS_parA (fun _ _ h g => ps_asg h g) (dEs_cons (dE_lst (dVs_cons (dV_tup (dVs_cons dV_str (dVs_cons (dV_E (de_callC c__law_draw hr (by decide) rfl (dA_slot (pv 0) (dA_push (dE_callB call_lenA (Call1.op len_sem) rfl (T.m "len" (by decide)) PySem.boot_len (dBs_cons (dB_name (pv 1)) dBs_nil) (by decide) (by decide)) dA_nil)))) dVs_nil))) dVs_nil)) (dEs_cons (dE_lst dVs_nil) dEs_nil)) (pg_tup rfl (pgs_cons (pg_name (i := 3) sc.nd rfl (by first | exact Or.inl rfl | exact Or.inr rfl)) (pgs_cons (pg_name (i := 4) sc.nd rfl (by first | exact Or.inl rfl | exact Or.inr rfl)) pgs_nil))) (by decide) (by decide) (by decide))
    (dS_cons (dS_for (fun g tb hg hb => ps_for PassesOwn.never rfl (dI_rng1 (pi_range1 rfl (T.m "range" (by decide)) (dVs_cons (dV_nameV (pv 2)) dVs_nil))) hg hb) (fun _ _ _ z => z) (dG_name (pg_name sc.nd rfl (by first | exact Or.inl rfl | exact Or.inr rfl)))
    (dS_cons (dS_set (i := 4) (fun _ h => ps_set sc.nd rfl (by first | exact Or.inl rfl | exact Or.inr rfl) h) (de_callC c__law_line_clauses hr (by decide) rfl (dA_slot (pv 1) (dA_push (dE_callT call_tuple_of (Call1.op tuple_sem) rfl (T.m "tuple" (by decide)) PyProof.Rows.boot_tuple (dBs_cons (dB_name (pv 3)) dBs_nil) (by decide) (by decide)) dA_nil))) (by decide))
    (dS_cons (dS_if (PW.pt (dT_or (dT_cmpS (op_eqD (hu64 hr)) eq_sem (de_callC c__law_draw hr (by decide) rfl (dA_slot (pv 0) (dA_push (dE_V dV_int) dA_nil))) (dB_V dV_int) (nomark _)) (dT_or1 (dT_cmpS op_lt lt_sem (dE_callB call_lenA (Call1.op len_sem) rfl (T.m "len" (by decide)) PySem.boot_len (dBs_cons (dB_name (pv 3)) dBs_nil) (by decide) (by decide)) (dB_V dV_int) (nomark _))))) (dS_cons (dS_app (i := 3) (fun _ h => ps_expr (pe_bm PySem.F.plainAttrs_list PySem.F.slot_list_append PySem.F.type_list_append mt_append (pv 3) h)) (dV_tup (dVs_cons dV_str (dVs_cons (dV_E (de_callC c__law_draw hr (by decide) rfl (dA_slot (pv 0) (dA_push (dE_callB call_lenA (Call1.op len_sem) rfl (T.m "len" (by decide)) PySem.boot_len (dBs_cons (dB_name (pv 1)) dBs_nil) (by decide) (by decide)) dA_nil)))) dVs_nil))))
    (dS_one dS_cont)) dS_nil)
    (dS_cons (dS_set (i := 6) (fun _ h => ps_set sc.nd rfl (by first | exact Or.inl rfl | exact Or.inr rfl) h) (de_callC c__law_draw hr (by decide) rfl (dA_slot (pv 0) (dA_push (dE_callB call_lenA (Call1.op len_sem) rfl (T.m "len" (by decide)) PySem.boot_len (dBs_cons (dB_name (pv 3)) dBs_nil) (by decide) (by decide)) dA_nil))) (by decide))
    (dS_cons (dS_parA (fun _ _ h g => ps_asg h g) (dEs_cons (dE_V (dV_B (dB_subN (hu_of hr) (pv 4) (dV_nameV (pv 6)) (by intro _ _; rfl) (by intro _ _; rfl)))) (dEs_cons (dE_lst dVs_nil) dEs_nil)) (pg_tup rfl (pgs_cons (pg_name (i := 7) sc.nd rfl (by first | exact Or.inl rfl | exact Or.inr rfl)) (pgs_cons (pg_name (i := 8) sc.nd rfl (by first | exact Or.inl rfl | exact Or.inr rfl)) pgs_nil))) (by decide) (by decide) (by decide))
    (dS_cons (dS_for (fun g tb hg hb => ps_for PassesOwn.never rfl (dI_rng1 (pi_range1 rfl (T.m "range" (by decide)) (dVs_cons (dV_E (de_opS op_addA add_sem (dE_V dV_int) (dB_E (de_callC c__law_draw hr (by decide) rfl (dA_slot (pv 0) (dA_push (dE_V dV_int) dA_nil)))))) dVs_nil))) hg hb) (fun _ _ _ z => z) (dG_name (pg_name sc.nd rfl (by first | exact Or.inl rfl | exact Or.inr rfl)))
    (dS_cons (dS_set (i := 10) (fun _ h => ps_set sc.nd rfl (by first | exact Or.inl rfl | exact Or.inr rfl) h) (dE_lst dVs_nil) (by decide))
    (dS_cons (dS_for (fun g tb hg hb => ps_for PassesOwn.never rfl (dI_rng1 (pi_range1 rfl (T.m "range" (by decide)) (dVs_cons (dV_E (dE_callB call_lenA (Call1.op len_sem) rfl (T.m "len" (by decide)) PySem.boot_len (dBs_cons (dB_name (pv 3)) dBs_nil) (by decide) (by decide))) dVs_nil))) hg hb) (fun _ _ _ z => z) (dG_name (pg_name sc.nd rfl (by first | exact Or.inl rfl | exact Or.inr rfl)))
    (dS_cons (dS_setLc (W' := W0) (own := [("_law_number", 13)]) rfl sc.nd rfl rfl (sw_true rfl rfl rfl (by decide +kernel)) (blkOk_by (by rfl)) (dI_seq (fun h => pi_list h) (fun h => pi_tup h) (dV_nameV (pv 7))) (fun s H C cl fp => (dG_name (pg_name sc.nd rfl (by first | exact Or.inl rfl | exact Or.inr rfl)))) (fun s H C cl fp => (dTs_one (dT_cmpS op_inA in_sem (dE_V (dV_neg (dV_nameV (pv 13)))) (dB_subN (hu_of hr) (pv 4) (dV_nameV (pv 11)) (by intro _ _; rfl) (by intro _ _; rfl)) (by with_unfolding_all rfl)))) (fun s H C cl fp => (dV_E (dE_callB call_abs (Call1.op abs_sem) rfl (T.m "abs" (by decide)) PyProof.Rows.boot_abs (dBs_cons (dB_name (pv 13)) dBs_nil) (by decide) (by decide)))) (by decide))
    (dS_one (dS_set (i := 10) (fun _ h => ps_set sc.nd rfl (by first | exact Or.inl rfl | exact Or.inr rfl) h) (de_opN op_addA add_sem (pv 10) (dB_E (dE_lc (W' := W0) (own := [("_law_one", 14)]) rfl sc.nd (blkOk_by (by rfl)) (dI_seq (fun h => pi_list h) (fun h => pi_tup h) (dV_nameV (pv 12))) (fun s H C cl fp => (dG_name (pg_name sc.nd rfl (by first | exact Or.inl rfl | exact Or.inr rfl)))) (fun s H C cl fp => (dTs_one (dT_cmpS op_isnA isn_sem (de_callC c__law_resolved hr (by decide) rfl (dA_slot (pv 7) (dA_push (dE_V (dV_B (dB_subN (hu_of hr) (pv 4) (dV_nameV (pv 11)) (by intro _ _; rfl) (by intro _ _; rfl)))) (dA_slot (pv 14) dA_nil)))) (dB_V dV_non) (nomark _)))) (fun s H C cl fp => (dV_tup (dVs_cons (dV_nameV (pv 14)) (dVs_cons (dV_nameV (pv 11)) dVs_nil))))))) (by decide)))) (by decide))
    (dS_one (dS_if (dT_cmpN (op_neD (hu64 hr)) ne_sem (pv 10) (dB_E (dE_lst dVs_nil)) (nomark _)) (dS_cons (dS_app (i := 8) (fun _ h => ps_expr (pe_bm PySem.F.plainAttrs_list PySem.F.slot_list_append PySem.F.type_list_append mt_append (pv 8) h)) (dV_E (de_callC c__law_pick hr (by decide) rfl (dA_slot (pv 0) (dA_slot (pv 10) dA_nil)))))
    (dS_one (dS_set (i := 7) (fun _ h => ps_set sc.nd rfl (by first | exact Or.inl rfl | exact Or.inr rfl) h) (de_callC c__law_resolved hr (by decide) rfl (dA_slot (pv 7) (dA_push (dE_V (dV_B (dB_subN (hu_of hr) (pv 4) (dV_B (dB_sub (hu_of hr) (dB_subN (hu_of hr) (pv 8) (dV_neg dV_int) (by intro _ _; rfl) (by intro _ _; rfl)) (dV_no dV_int) (by intro _ _; rfl) (by intro _ _; rfl))) (by intro _ _; rfl) (by intro _ _; rfl)))) (dA_push (dE_V (dV_B (dB_sub (hu_of hr) (dB_subN (hu_of hr) (pv 8) (dV_neg dV_int) (by intro _ _; rfl) (by intro _ _; rfl)) (dV_no dV_int) (by intro _ _; rfl) (by intro _ _; rfl)))) dA_nil)))) (by decide)))) dS_nil)))) (by decide))
    (dS_one (dS_if (dT_cmpN (op_neD (hu64 hr)) ne_sem (pv 8) (dB_E (dE_lst dVs_nil)) (nomark _)) (dS_one (dS_app (i := 3) (fun _ h => ps_expr (pe_bm PySem.F.plainAttrs_list PySem.F.slot_list_append PySem.F.type_list_append mt_append (pv 3) h)) (dV_tup (dVs_cons dV_str (dVs_cons (dV_nameV (pv 6)) (dVs_cons (dV_E (dE_callT call_tuple_of (Call1.op tuple_sem) rfl (T.m "tuple" (by decide)) PyProof.Rows.boot_tuple (dBs_cons (dB_name (pv 8)) dBs_nil) (by decide) (by decide))) dVs_nil)))))) dS_nil))))))) (by decide))
    (dS_one (dS_ret (dE_callT call_tuple_of (Call1.op tuple_sem) rfl (T.m "tuple" (by decide)) PyProof.Rows.boot_tuple (dBs_cons (dB_name (pv 3)) dBs_nil) (by decide) (by decide))))))), hm, F.kp, F.binds fun _ _ _ _ _ _ us hl => match us, hl with | [_, _, _], _ => rfl⟩

/-! ### is_count(value): slots 0 value -/
abbrev s_is_count : Stmt := top 4
def d_is_count : MS :=
  (sRet (mMap O.sh (mAndV (mIsi ["int"] (mNameB 0)) (mAndV (mMap (fun b => D.bl (!b)) (mTru (mMap (fun d => ((none : Option Nat), O.sh d)) (mIsi ["bool"] (mNameB 0))))) (mMap O.toD (mOpN 0 (liftB fun i j => decide (j ≤ i)) (mMap (fun d => ((none : Option Nat), O.sh d)) (mPure (.int 0)))))))))
def sem_is_count : Sem := semOf 1 1 [0] d_is_count
theorem sc_is_count : FnScope ["value"] ["value"] (defScope s_is_count) := ⟨rfl, rfl, rfl, by decide +kernel, rfl, by decide +kernel, by decide +kernel⟩
theorem ok_is_count {P : Program} {w : World} {K : PySem.W.Frag} {mg : Str → Option Value} {base : Heap} (T : Txt mg) {f : Addr} {fd : FuncData} (F : Fun K "is_count" "is_count" s_is_count f fd) (hm : mg "is_count" = some (.ref f)) : Cal P w K mg base 1 "is_count" ["value"] sem_is_count :=
  ⟨f, fd, fn_D (k := 0) (N := ["value"]) F sc_is_count (by decide) (fun cdv A outer s H E hr => have sc := sc_is_count
    (dS_one (dS_ret (dE_V (dV_and (dV_isi1 (fun _ h => (pe_callB call_isi rfl (T.m "isinstance" (by decide)) PyProof.Rows.boot_isinstance h)) (dB_name (pv 0)) (pe_bltn rfl (T.m "int" (by decide)) PyProof.Rows.boot_int rfl)) (dV_and (dV_not (dB_V (dV_isi1 (fun _ h => (pe_callB call_isi rfl (T.m "isinstance" (by decide)) PyProof.Rows.boot_isinstance h)) (dB_name (pv 0)) (pe_bltn rfl (T.m "bool" (by decide)) PyProof.Rows.boot_bool rfl)))) (dV_one (dV_E (de_cmpN op_ge ge_sem (pv 0) (dB_V dV_int) (nomark _)))))))))), hm, F.kp, F.binds fun _ _ _ _ _ _ us hl => match us, hl with | [_], _ => rfl⟩

/-! ### chain_clause(ahead, line): slots 0 ahead, 1 line, 2 found, 3 pair -/
abbrev s_chain_clause : Stmt := top 7
def d_chain_clause : MS :=
  (sSeq (sIf (mOrT (mBl (mOpS neO (mCall (f1 lenD) (mConsB true (mNameB 1) (mPure []))) (mMap (fun d => ((none : Option Nat), O.sh d)) (mPure (.int 3))))) (mOrT (mMap (fun b => !b) (mTru (mMap (fun o => ((none : Option Nat), o)) (mCallF sem_is_count [none] (mConsO (mMap O.sh (mBind (mSubN 1 (mPure (.int 1))) asSh)) (mPure [])))))) (mBl (mOpS (liftB fun i j => decide (j ≤ i)) (mMap O.sh (mBind (mSubN 1 (mPure (.int 1))) asSh)) (mMap (fun o => ((none : Option Nat), o)) (mCall (f1 lenD) (mConsB true (mNameB 0) (mPure [])))))))) (sRet (mMap O.sh (mPure .non))) sNext)
  (sSeq (sIf (mOrT (mMap (fun b => !b) (mTru (mMap (fun d => ((none : Option Nat), O.sh d)) (mIsi ["tuple"] (mSubN 1 (mPure (.int 2))))))) (mBl (mOpS eqO (mCall (f1 lenD) (mConsB true (mSubN 1 (mPure (.int 2))) (mPure []))) (mMap (fun d => ((none : Option Nat), O.sh d)) (mPure (.int 0)))))) (sRet (mMap O.sh (mPure .non))) sNext)
  (sSeq (sAsg 2 (mMap O.sh (mBind (mSubN 0 (mBind (mSubN 1 (mPure (.int 1))) asSh)) asSh)))
  (sSeq (sFor (mBind (mBind (mSubN 1 (mPure (.int 2))) asSh) seqD) (bName 3)
  (sSeq (sIf (mOrT (mMap (fun b => !b) (mTru (mMap (fun d => ((none : Option Nat), O.sh d)) (mIsi ["tuple"] (mNameB 3))))) (mOrT (mBl (mOpS neO (mCall (f1 lenD) (mConsB true (mNameB 3) (mPure []))) (mMap (fun d => ((none : Option Nat), O.sh d)) (mPure (.int 2))))) (mOrT (mMap (fun b => !b) (mTru (mMap (fun o => ((none : Option Nat), o)) (mCallF sem_is_count [none] (mConsO (mMap O.sh (mBind (mSubN 3 (mPure (.int 0))) asSh)) (mPure [])))))) (mMap (fun b => !b) (mTru (mMap (fun o => ((none : Option Nat), o)) (mCallF sem_is_count [none] (mConsO (mMap O.sh (mBind (mSubN 3 (mPure (.int 1))) asSh)) (mPure []))))))))) (sRet (mMap O.sh (mPure .non))) sNext)
  (sSeq (sIf (mOrT (mBl (mOpS eqO (mMap O.sh (mBind (mSubN 3 (mPure (.int 0))) asSh)) (mMap (fun d => ((none : Option Nat), O.sh d)) (mPure (.int 0))))) (mBl (mOpS (liftB fun i j => decide (j ≤ i)) (mMap O.sh (mBind (mSubN 3 (mPure (.int 1))) asSh)) (mMap (fun o => ((none : Option Nat), o)) (mCall (f1 lenD) (mConsB true (mNameB 0) (mPure []))))))) (sRet (mMap O.sh (mPure .non))) sNext)
  (sSeq (sAsg 2 (mCallF sem_resolvent [some 2, none, none] (mHas 2 (mConsO (mMap O.sh (mBind (mSubN 0 (mBind (mSubN 3 (mPure (.int 1))) asSh)) asSh)) (mConsO (mMap O.sh (mBind (mSubN 3 (mPure (.int 0))) asSh)) (mPure []))))))
  (sIf (mBl (mOpN 2 isO (mMap (fun d => ((none : Option Nat), O.sh d)) (mPure .non)))) (sRet (mMap O.sh (mPure .non))) sNext)))))
  (sRet (mNameM 2))))))
def sem_chain_clause : Sem := semOf 4 2 [0, 1] d_chain_clause
theorem sc_chain_clause : FnScope ["ahead", "line", "found", "pair"] ["ahead", "line"] (defScope s_chain_clause) := ⟨rfl, rfl, rfl, by decide +kernel, rfl, by decide +kernel, by decide +kernel⟩
theorem ok_chain_clause {P : Program} {w : World} {K : PySem.W.Frag} {mg : Str → Option Value} {base : Heap} (T : Txt mg) (c_is_count : Cal P w K mg base 1 "is_count" ["value"] sem_is_count) (c_resolvent : Cal P w K mg base 1 "resolvent" ["one", "other", "variable"] sem_resolvent) {f : Addr} {fd : FuncData} (F : Fun K "chain_clause" "chain_clause" s_chain_clause f fd) (hm : mg "chain_clause" = some (.ref f)) : Cal P w K mg base 2 "chain_clause" ["ahead", "line"] sem_chain_clause :=
  ⟨f, fd, fn_D (k := 1) (N := ["ahead", "line", "found", "pair"]) F sc_chain_clause (by decide) (fun cdv A outer s H E hr => have sc := sc_chain_clause
    (dS_cons (dS_if (PW.pt (dT_or (dT_cmpS (op_neD (hu64 hr)) ne_sem (dE_callB call_lenA (Call1.op len_sem) rfl (T.m "len" (by decide)) PySem.boot_len (dBs_cons (dB_name (pv 1)) dBs_nil) (by decide) (by decide)) (dB_V dV_int) (nomark _)) (dT_or (dT_not (dT_tru (dB_E (de_callC c_is_count hr (by decide) rfl (dA_push (dE_V (dV_B (dB_subN (hu_of hr) (pv 1) dV_int (by intro _ _; rfl) (by intro _ _; rfl)))) dA_nil))))) (dT_or1 (dT_cmpS op_ge ge_sem (dE_V (dV_B (dB_subN (hu_of hr) (pv 1) dV_int (by intro _ _; rfl) (by intro _ _; rfl)))) (dB_E (dE_callB call_lenA (Call1.op len_sem) rfl (T.m "len" (by decide)) PySem.boot_len (dBs_cons (dB_name (pv 0)) dBs_nil) (by decide) (by decide))) (nomark _)))))) (dS_one (dS_ret (dE_V dV_non))) dS_nil)
    (dS_cons (dS_if (PW.pt (dT_or (dT_not (dT_tru (dB_V (dV_isi1 (fun _ h => (pe_callB call_isi rfl (T.m "isinstance" (by decide)) PyProof.Rows.boot_isinstance h)) (dB_subN (hu_of hr) (pv 1) dV_int (by intro _ _; rfl) (by intro _ _; rfl)) (pe_bltn rfl (T.m "tuple" (by decide)) PyProof.Rows.boot_tuple rfl))))) (dT_or1 (dT_cmpS (op_eqD (hu64 hr)) eq_sem (dE_callB call_lenA (Call1.op len_sem) rfl (T.m "len" (by decide)) PySem.boot_len (dBs_cons (dB_subN (hu_of hr) (pv 1) dV_int (by intro _ _; rfl) (by intro _ _; rfl)) dBs_nil) (by decide) (by decide)) (dB_V dV_int) (nomark _))))) (dS_one (dS_ret (dE_V dV_non))) dS_nil)
    (dS_cons (dS_set (i := 2) (fun _ h => ps_set sc.nd rfl (by first | exact Or.inl rfl | exact Or.inr rfl) h) (dE_V (dV_B (dB_subN (hu_of hr) (pv 0) (dV_B (dB_subN (hu_of hr) (pv 1) dV_int (by intro _ _; rfl) (by intro _ _; rfl))) (by intro _ _; rfl) (by intro _ _; rfl)))) (by decide))
    (dS_cons (dS_for (fun g tb hg hb => ps_for PassesOwn.never rfl (dI_seq (fun h => pi_list h) (fun h => pi_tup h) (dV_B (dB_subN (hu_of hr) (pv 1) dV_int (by intro _ _; rfl) (by intro _ _; rfl)))) hg hb) (fun _ _ _ z => z) (dG_name (pg_name sc.nd rfl (by first | exact Or.inl rfl | exact Or.inr rfl)))
    (dS_cons (dS_if (PW.pt (dT_or (dT_not (dT_tru (dB_V (dV_isi1 (fun _ h => (pe_callB call_isi rfl (T.m "isinstance" (by decide)) PyProof.Rows.boot_isinstance h)) (dB_name (pv 3)) (pe_bltn rfl (T.m "tuple" (by decide)) PyProof.Rows.boot_tuple rfl))))) (dT_or (dT_cmpS (op_neD (hu64 hr)) ne_sem (dE_callB call_lenA (Call1.op len_sem) rfl (T.m "len" (by decide)) PySem.boot_len (dBs_cons (dB_name (pv 3)) dBs_nil) (by decide) (by decide)) (dB_V dV_int) (nomark _)) (dT_or (dT_not (dT_tru (dB_E (de_callC c_is_count hr (by decide) rfl (dA_push (dE_V (dV_B (dB_subN (hu_of hr) (pv 3) dV_int (by intro _ _; rfl) (by intro _ _; rfl)))) dA_nil))))) (dT_or1 (dT_not (dT_tru (dB_E (de_callC c_is_count hr (by decide) rfl (dA_push (dE_V (dV_B (dB_subN (hu_of hr) (pv 3) dV_int (by intro _ _; rfl) (by intro _ _; rfl)))) dA_nil)))))))))) (dS_one (dS_ret (dE_V dV_non))) dS_nil)
    (dS_cons (dS_if (PW.pt (dT_or (dT_cmpS (op_eqD (hu64 hr)) eq_sem (dE_V (dV_B (dB_subN (hu_of hr) (pv 3) dV_int (by intro _ _; rfl) (by intro _ _; rfl)))) (dB_V dV_int) (nomark _)) (dT_or1 (dT_cmpS op_ge ge_sem (dE_V (dV_B (dB_subN (hu_of hr) (pv 3) dV_int (by intro _ _; rfl) (by intro _ _; rfl)))) (dB_E (dE_callB call_lenA (Call1.op len_sem) rfl (T.m "len" (by decide)) PySem.boot_len (dBs_cons (dB_name (pv 0)) dBs_nil) (by decide) (by decide))) (nomark _))))) (dS_one (dS_ret (dE_V dV_non))) dS_nil)
    (dS_cons (dS_set (i := 2) (fun _ h => ps_set sc.nd rfl (by first | exact Or.inl rfl | exact Or.inr rfl) h) (de_callC c_resolvent hr (by decide) rfl (dA_slot (pv 2) (dA_push (dE_V (dV_B (dB_subN (hu_of hr) (pv 0) (dV_B (dB_subN (hu_of hr) (pv 3) dV_int (by intro _ _; rfl) (by intro _ _; rfl))) (by intro _ _; rfl) (by intro _ _; rfl)))) (dA_push (dE_V (dV_B (dB_subN (hu_of hr) (pv 3) dV_int (by intro _ _; rfl) (by intro _ _; rfl)))) dA_nil)))) (by decide))
    (dS_one (dS_if (dT_cmpN op_isA is_sem (pv 2) (dB_V dV_non) (nomark _)) (dS_one (dS_ret (dE_V dV_non))) dS_nil))))) (by decide))
    (dS_one (dS_ret (dE_nameM (pv 2))))))))), hm, F.kp, F.binds fun _ _ _ _ _ _ us hl => match us, hl with | [_, _], _ => rfl⟩

/-! ### line_clause(clauses, ahead, line): slots 0 clauses, 1 ahead, 2 line -/
abbrev s_line_clause : Stmt := top 8
def d_line_clause : MS :=
  (sSeq (sIf (mOrT (mMap (fun b => !b) (mTru (mMap (fun d => ((none : Option Nat), O.sh d)) (mIsi ["tuple"] (mNameB 2))))) (mBl (mOpS eqO (mCall (f1 lenD) (mConsB true (mNameB 2) (mPure []))) (mMap (fun d => ((none : Option Nat), O.sh d)) (mPure (.int 0)))))) (sRet (mMap O.sh (mPure .non))) sNext)
  (sSeq (sIf (mAndT (mBl (mOpS eqO (mMap O.sh (mBind (mSubN 2 (mPure (.int 0))) asSh)) (mMap (fun d => ((none : Option Nat), O.sh d)) (mPure (.str "given"))))) (mBl (mOpS eqO (mCall (f1 lenD) (mConsB true (mNameB 2) (mPure []))) (mMap (fun d => ((none : Option Nat), O.sh d)) (mPure (.int 2)))))) (sRet (mIf (mAndT (mTru (mMap (fun o => ((none : Option Nat), o)) (mCallF sem_is_count [none] (mConsO (mMap O.sh (mBind (mSubN 2 (mPure (.int 1))) asSh)) (mPure []))))) (mBl (mOpS (liftB fun i j => decide (i < j)) (mMap O.sh (mBind (mSubN 2 (mPure (.int 1))) asSh)) (mMap (fun o => ((none : Option Nat), o)) (mCall (f1 lenD) (mConsB true (mNameB 0) (mPure []))))))) (mMap O.sh (mBind (mSubN 0 (mBind (mSubN 2 (mPure (.int 1))) asSh)) asSh)) (mMap O.sh (mPure .non)))) sNext)
  (sRet (mIf (mBl (mOpS eqO (mMap O.sh (mBind (mSubN 2 (mPure (.int 0))) asSh)) (mMap (fun d => ((none : Option Nat), O.sh d)) (mPure (.str "chain"))))) (mCallF sem_chain_clause [some 1, some 2] (mHas 1 (mHas 2 (mPure [])))) (mMap O.sh (mPure .non))))))
def sem_line_clause : Sem := semOf 3 3 [0, 1, 2] d_line_clause
theorem sc_line_clause : FnScope ["clauses", "ahead", "line"] ["clauses", "ahead", "line"] (defScope s_line_clause) := ⟨rfl, rfl, rfl, by decide +kernel, rfl, by decide +kernel, by decide +kernel⟩
theorem ok_line_clause {P : Program} {w : World} {K : PySem.W.Frag} {mg : Str → Option Value} {base : Heap} (T : Txt mg) (c_is_count : Cal P w K mg base 1 "is_count" ["value"] sem_is_count) (c_chain_clause : Cal P w K mg base 2 "chain_clause" ["ahead", "line"] sem_chain_clause) {f : Addr} {fd : FuncData} (F : Fun K "line_clause" "line_clause" s_line_clause f fd) (hm : mg "line_clause" = some (.ref f)) : Cal P w K mg base 3 "line_clause" ["clauses", "ahead", "line"] sem_line_clause :=
  ⟨f, fd, fn_D (k := 2) (N := ["clauses", "ahead", "line"]) F sc_line_clause (by decide) (fun cdv A outer s H E hr => have sc := sc_line_clause
    (dS_cons (dS_if (PW.pt (dT_or (dT_not (dT_tru (dB_V (dV_isi1 (fun _ h => (pe_callB call_isi rfl (T.m "isinstance" (by decide)) PyProof.Rows.boot_isinstance h)) (dB_name (pv 2)) (pe_bltn rfl (T.m "tuple" (by decide)) PyProof.Rows.boot_tuple rfl))))) (dT_or1 (dT_cmpS (op_eqD (hu64 hr)) eq_sem (dE_callB call_lenA (Call1.op len_sem) rfl (T.m "len" (by decide)) PySem.boot_len (dBs_cons (dB_name (pv 2)) dBs_nil) (by decide) (by decide)) (dB_V dV_int) (nomark _))))) (dS_one (dS_ret (dE_V dV_non))) dS_nil)
    (dS_cons (dS_if (PW.pt (dT_and (dT_cmpS (op_eqD (hu64 hr)) eq_sem (dE_V (dV_B (dB_subN (hu_of hr) (pv 2) dV_int (by intro _ _; rfl) (by intro _ _; rfl)))) (dB_V dV_str) (nomark _)) (dT_and1 (dT_cmpS (op_eqD (hu64 hr)) eq_sem (dE_callB call_lenA (Call1.op len_sem) rfl (T.m "len" (by decide)) PySem.boot_len (dBs_cons (dB_name (pv 2)) dBs_nil) (by decide) (by decide)) (dB_V dV_int) (nomark _))))) (dS_one (dS_ret (dE_if (PW.pt (dT_and (dT_tru (dB_E (de_callC c_is_count hr (by decide) rfl (dA_push (dE_V (dV_B (dB_subN (hu_of hr) (pv 2) dV_int (by intro _ _; rfl) (by intro _ _; rfl)))) dA_nil)))) (dT_and1 (dT_cmpS op_lt lt_sem (dE_V (dV_B (dB_subN (hu_of hr) (pv 2) dV_int (by intro _ _; rfl) (by intro _ _; rfl)))) (dB_E (dE_callB call_lenA (Call1.op len_sem) rfl (T.m "len" (by decide)) PySem.boot_len (dBs_cons (dB_name (pv 0)) dBs_nil) (by decide) (by decide))) (nomark _))))) (dE_V (dV_B (dB_subN (hu_of hr) (pv 0) (dV_B (dB_subN (hu_of hr) (pv 2) dV_int (by intro _ _; rfl) (by intro _ _; rfl))) (by intro _ _; rfl) (by intro _ _; rfl)))) (dE_V dV_non)))) dS_nil)
    (dS_one (dS_ret (dE_if (dT_cmpS (op_eqD (hu64 hr)) eq_sem (dE_V (dV_B (dB_subN (hu_of hr) (pv 2) dV_int (by intro _ _; rfl) (by intro _ _; rfl)))) (dB_V dV_str) (nomark _)) (de_callC c_chain_clause hr (by decide) rfl (dA_slot (pv 1) (dA_slot (pv 2) dA_nil))) (dE_V dV_non))))))), hm, F.kp, F.binds fun _ _ _ _ _ _ us hl => match us, hl with | [_, _, _], _ => rfl⟩

/-! ### all_clauses(clauses, lines): slots 0 clauses, 1 lines, 2 found, 3 line, 4 clause -/
abbrev s_all_clauses : Stmt := top 9
def d_all_clauses : MS :=
  (sSeq (sIf (mMap (fun b => !b) (mTru (mMap (fun d => ((none : Option Nat), O.sh d)) (mIsi ["tuple"] (mNameB 1))))) (sRet (mMap O.sh (mPure .non))) sNext)
  (sSeq (sAsg 2 (mLst (mPure [])))
  (sSeq (sFor (mBind (mNameV 1) seqD) (bName 3)
  (sSeq (sAsg 4 (mCallF sem_line_clause [some 0, some 2, some 3] (mHas 0 (mHas 2 (mHas 3 (mPure []))))))
  (sSeq (sIf (mBl (mOpN 4 isO (mMap (fun d => ((none : Option Nat), O.sh d)) (mPure .non)))) (sRet (mMap O.sh (mPure .non))) sNext)
  (sApp 2 (mMap O.toD (mCall (f1 tupleD) (mConsB true (mNameB 4) (mPure []))))))))
  (sRet (mCall (f1 tupleD) (mConsB true (mNameB 2) (mPure [])))))))
def sem_all_clauses : Sem := semOf 5 2 [0, 1] d_all_clauses
theorem sc_all_clauses : FnScope ["clauses", "lines", "found", "line", "clause"] ["clauses", "lines"] (defScope s_all_clauses) := ⟨rfl, rfl, rfl, by decide +kernel, rfl, by decide +kernel, by decide +kernel⟩
theorem ok_all_clauses {P : Program} {w : World} {K : PySem.W.Frag} {mg : Str → Option Value} {base : Heap} (T : Txt mg) (c_line_clause : Cal P w K mg base 3 "line_clause" ["clauses", "ahead", "line"] sem_line_clause) {f : Addr} {fd : FuncData} (F : Fun K "all_clauses" "all_clauses" s_all_clauses f fd) (hm : mg "all_clauses" = some (.ref f)) : Cal P w K mg base 4 "all_clauses" ["clauses", "lines"] sem_all_clauses :=
  ⟨f, fd, fn_D (k := 3) (N := ["clauses", "lines", "found", "line", "clause"]) F sc_all_clauses (by decide) (fun cdv A outer s H E hr => have sc := sc_all_clauses
    (dS_cons (dS_if (dT_not (dT_tru (dB_V (dV_isi1 (fun _ h => (pe_callB call_isi rfl (T.m "isinstance" (by decide)) PyProof.Rows.boot_isinstance h)) (dB_name (pv 1)) (pe_bltn rfl (T.m "tuple" (by decide)) PyProof.Rows.boot_tuple rfl))))) (dS_one (dS_ret (dE_V dV_non))) dS_nil)
    (dS_cons (dS_set (i := 2) (fun _ h => ps_set sc.nd rfl (by first | exact Or.inl rfl | exact Or.inr rfl) h) (dE_lst dVs_nil) (by decide))
    (dS_cons (dS_for (fun g tb hg hb => ps_for PassesOwn.never rfl (dI_seq (fun h => pi_list h) (fun h => pi_tup h) (dV_nameV (pv 1))) hg hb) (fun _ _ _ z => z) (dG_name (pg_name sc.nd rfl (by first | exact Or.inl rfl | exact Or.inr rfl)))
    (dS_cons (dS_set (i := 4) (fun _ h => ps_set sc.nd rfl (by first | exact Or.inl rfl | exact Or.inr rfl) h) (de_callC c_line_clause hr (by decide) rfl (dA_slot (pv 0) (dA_slot (pv 2) (dA_slot (pv 3) dA_nil)))) (by decide))
    (dS_cons (dS_if (dT_cmpN op_isA is_sem (pv 4) (dB_V dV_non) (nomark _)) (dS_one (dS_ret (dE_V dV_non))) dS_nil)
    (dS_one (dS_app (i := 2) (fun _ h => ps_expr (pe_bm PySem.F.plainAttrs_list PySem.F.slot_list_append PySem.F.type_list_append mt_append (pv 2) h)) (dV_E (dE_callT call_tuple_of (Call1.op tuple_sem) rfl (T.m "tuple" (by decide)) PyProof.Rows.boot_tuple (dBs_cons (dB_name (pv 4)) dBs_nil) (by decide) (by decide))))))) (by decide))
    (dS_one (dS_ret (dE_callT call_tuple_of (Call1.op tuple_sem) rfl (T.m "tuple" (by decide)) PyProof.Rows.boot_tuple (dBs_cons (dB_name (pv 2)) dBs_nil) (by decide) (by decide)))))))), hm, F.kp, F.binds fun _ _ _ _ _ _ us hl => match us, hl with | [_, _], _ => rfl⟩

/-! ### as_rows(value): slots 0 value, 1 one -/
abbrev s_as_rows : Stmt := top 10
def d_as_rows (rec : Sem) : MS :=
  (sRet (mIf (mTru (mMap (fun d => ((none : Option Nat), O.sh d)) (mIsi ["tuple", "list"] (mNameB 0)))) (mCall (f1 tupleD) (mConsB true (mMap (fun o => ((none : Option Nat), o)) (mLc [1] (mBind (mNameV 0) seqD) (bName 1) (mPure true) (mMap O.toD (mCallF rec [some 1] (mHas 1 (mPure [])))))) (mPure []))) (mMap O.sh (mNameV 0))))
def sem_as_rows : Nat → Sem
  | 0 => fun _ => .bad
  | k + 1 => semOf 2 1 [0] (d_as_rows (sem_as_rows k))
theorem sc_as_rows : FnScope ["value", "one"] ["value"] (defScope s_as_rows) := ⟨rfl, rfl, rfl, by decide +kernel, rfl, by decide +kernel, by decide +kernel⟩
theorem ok_as_rows {P : Program} {w : World} {K : PySem.W.Frag} {mg : Str → Option Value} {base : Heap} (T : Txt mg) {f : Addr} {fd : FuncData} (F : Fun K "as_rows" "as_rows" s_as_rows f fd) (hm : mg "as_rows" = some (.ref f)) : ∀ n, Cal P w K mg base (1 + n) "as_rows" ["value"] (sem_as_rows n)
  | 0 => ⟨f, fd, fn_bad, hm, F.kp, F.binds fun _ _ _ _ _ _ us hl => match us, hl with | [_], _ => rfl⟩
  | n + 1 => have crec := ok_as_rows T F hm n
    ⟨f, fd, fn_D (N := ["value", "one"]) F sc_as_rows (by decide) (fun cdv A outer s H E hr => have sc := sc_as_rows
    (dS_one (dS_ret (dE_if (dT_tru (dB_V (dV_isi2 (fun _ h => (pe_callB call_isiT rfl (T.m "isinstance" (by decide)) PyProof.Rows.boot_isinstance h)) (dB_name (pv 0)) (pe_bltn rfl (T.m "tuple" (by decide)) PyProof.Rows.boot_tuple rfl) (pe_bltn rfl (T.m "list" (by decide)) PyProof.Rows.boot_list rfl)))) (dE_callT call_tuple_of (Call1.op tuple_sem) rfl (T.m "tuple" (by decide)) PyProof.Rows.boot_tuple (dBs_cons (dB_E (dE_lc (W' := W0) (own := [("one", 1)]) rfl sc.nd (blkOk_by (by rfl)) (dI_seq (fun h => pi_list h) (fun h => pi_tup h) (dV_nameV (pv 0))) (fun s H C cl fp => (dG_name (pg_name sc.nd rfl (by first | exact Or.inl rfl | exact Or.inr rfl)))) (fun s H C cl fp => dTs_nil) (fun s H C cl fp => (dV_E (de_callC crec hr (Nat.le_refl _) rfl (dA_slot (pv 1) dA_nil)))))) dBs_nil) (by decide) (by decide)) (dE_V (dV_nameV (pv 0))))))), hm, F.kp, F.binds fun _ _ _ _ _ _ us hl => match us, hl with | [_], _ => rfl⟩

/-! ### line_clauses(clauses, lines): slots 0 clauses, 1 lines, 2 found -/
abbrev s_line_clauses : Stmt := top 11
def d_line_clauses : MS :=
  (sSeq (sAsg 2 (mCallF sem_all_clauses [some 0, none] (mHas 0 (mConsO (mCallF (sem_as_rows 12) [some 1] (mHas 1 (mPure []))) (mPure [])))))
  (sSeq (sIf (mBl (mOpN 2 isO (mMap (fun d => ((none : Option Nat), O.sh d)) (mPure .non)))) sBad sNext)
  (sRet (mNameM 2))))
def sem_line_clauses : Sem := semOf 3 2 [0, 1] d_line_clauses
theorem sc_line_clauses : FnScope ["clauses", "lines", "found"] ["clauses", "lines"] (defScope s_line_clauses) := ⟨rfl, rfl, rfl, by decide +kernel, rfl, by decide +kernel, by decide +kernel⟩
theorem ok_line_clauses {P : Program} {w : World} {K : PySem.W.Frag} {mg : Str → Option Value} {base : Heap} (T : Txt mg) (c_all_clauses : Cal P w K mg base 4 "all_clauses" ["clauses", "lines"] sem_all_clauses) (c_as_rows : Cal P w K mg base 13 "as_rows" ["value"] (sem_as_rows 12)) {f : Addr} {fd : FuncData} (F : Fun K "line_clauses" "line_clauses" s_line_clauses f fd) (hm : mg "line_clauses" = some (.ref f)) : Cal P w K mg base 14 "line_clauses" ["clauses", "lines"] sem_line_clauses :=
  ⟨f, fd, fn_D (k := 13) (N := ["clauses", "lines", "found"]) F sc_line_clauses (by decide) (fun cdv A outer s H E hr => have sc := sc_line_clauses
    (dS_cons (dS_set (i := 2) (fun _ h => ps_set sc.nd rfl (by first | exact Or.inl rfl | exact Or.inr rfl) h) (de_callC c_all_clauses hr (by decide) rfl (dA_slot (pv 0) (dA_push (de_callC c_as_rows hr (by decide) rfl (dA_slot (pv 1) dA_nil)) dA_nil))) (by decide))
    (dS_cons (dS_if (dT_cmpN op_isA is_sem (pv 2) (dB_V dV_non) (nomark _)) (dS_one dS_bad) dS_nil)
    (dS_one (dS_ret (dE_nameM (pv 2))))))), hm, F.kp, F.binds fun _ _ _ _ _ _ us hl => match us, hl with | [_, _], _ => rfl⟩

/-! ### _law_longer(_law_rows_here, _law_many): slots 0 _law_rows_here, 1 _law_many, 2 _law_found, 3 _law_row, 4 _law_number -/
abbrev s__law_longer : Stmt := top 17
-- d__law_longer, sem__law_longer: the shared ones
theorem sc__law_longer : FnScope ["_law_rows_here", "_law_many", "_law_found", "_law_row", "_law_number"] ["_law_rows_here", "_law_many"] (defScope s__law_longer) := ⟨rfl, rfl, rfl, by decide +kernel, rfl, by decide +kernel, by decide +kernel⟩
theorem ok__law_longer {P : Program} {w : World} {K : PySem.W.Frag} {mg : Str → Option Value} {base : Heap} (T : Txt mg) {f : Addr} {fd : FuncData} (F : Fun K "_law_longer" "_law_longer" s__law_longer f fd) (hm : mg "_law_longer" = some (.ref f)) : Cal P w K mg base 1 "_law_longer" ["_law_rows_here", "_law_many"] sem__law_longer :=
  ⟨f, fd, fn_D (k := 0) (N := ["_law_rows_here", "_law_many", "_law_found", "_law_row", "_law_number"]) F sc__law_longer (by decide) (fun cdv A outer s H E hr => have sc := sc__law_longer
    (dS_cons (dS_set (i := 2) (fun _ h => ps_set sc.nd rfl (by first | exact Or.inl rfl | exact Or.inr rfl) h) (dE_lst dVs_nil) (by decide))
    (dS_cons (dS_for (fun g tb hg hb => ps_for PassesOwn.never rfl (dI_seq (fun h => pi_list h) (fun h => pi_tup h) (dV_nameV (pv 0))) hg hb) (fun _ _ _ z => z) (dG_name (pg_name sc.nd rfl (by first | exact Or.inl rfl | exact Or.inr rfl)))
    (dS_one (dS_set (i := 2) (fun _ h => ps_set sc.nd rfl (by first | exact Or.inl rfl | exact Or.inr rfl) h) (de_opN op_addA add_sem (pv 2) (dB_E (dE_lc (W' := W0) (own := [("_law_number", 4)]) rfl sc.nd (blkOk_by (by rfl)) (dI_rng1 (pi_range1 rfl (T.m "range" (by decide)) (dVs_cons (dV_nameV (pv 1)) dVs_nil))) (fun s H C cl fp => (dG_name (pg_name sc.nd rfl (by first | exact Or.inl rfl | exact Or.inr rfl)))) (fun s H C cl fp => dTs_nil) (fun s H C cl fp => (dV_E (de_opN op_addA add_sem (pv 3) (dB_V (dV_tup (dVs_cons (dV_nameV (pv 4)) dVs_nil))))))))) (by decide))) (by decide))
    (dS_one (dS_ret (dE_nameM (pv 2))))))), hm, F.kp, F.binds fun _ _ _ _ _ _ us hl => match us, hl with | [_, _], _ => rfl⟩

/-! ### _law_rows(_law_many): slots 0 _law_many, 1 _law_rows_here, 2 _law_k -/
abbrev s__law_rows : Stmt := top 18
-- d__law_rows, sem__law_rows: the shared ones
theorem sc__law_rows : FnScope ["_law_many", "_law_rows_here", "_law_k"] ["_law_many"] (defScope s__law_rows) := ⟨rfl, rfl, rfl, by decide +kernel, rfl, by decide +kernel, by decide +kernel⟩
theorem ok__law_rows {P : Program} {w : World} {K : PySem.W.Frag} {mg : Str → Option Value} {base : Heap} (T : Txt mg) (c__law_longer : Cal P w K mg base 1 "_law_longer" ["_law_rows_here", "_law_many"] sem__law_longer) {f : Addr} {fd : FuncData} (F : Fun K "_law_rows" "_law_rows" s__law_rows f fd) (hm : mg "_law_rows" = some (.ref f)) : Cal P w K mg base 2 "_law_rows" ["_law_many"] sem__law_rows :=
  ⟨f, fd, fn_D (k := 1) (N := ["_law_many", "_law_rows_here", "_law_k"]) F sc__law_rows (by decide) (fun cdv A outer s H E hr => have sc := sc__law_rows
    (dS_cons (dS_set (i := 1) (fun _ h => ps_set sc.nd rfl (by first | exact Or.inl rfl | exact Or.inr rfl) h) (dE_lst (dVs_cons (dV_tup dVs_nil) dVs_nil)) (by decide))
    (dS_cons (dS_for (fun g tb hg hb => ps_for PassesOwn.never rfl (dI_rng1 (pi_range1 rfl (T.m "range" (by decide)) (dVs_cons (dV_nameV (pv 0)) dVs_nil))) hg hb) (fun _ _ _ z => z) (dG_name (pg_name sc.nd rfl (by first | exact Or.inl rfl | exact Or.inr rfl)))
    (dS_one (dS_set (i := 1) (fun _ h => ps_set sc.nd rfl (by first | exact Or.inl rfl | exact Or.inr rfl) h) (de_callC c__law_longer hr (by decide) rfl (dA_slot (pv 1) (dA_push (dE_V dV_int) dA_nil))) (by decide))) (by decide))
    (dS_one (dS_ret (dE_nameM (pv 1))))))), hm, F.kp, F.binds fun _ _ _ _ _ _ us hl => match us, hl with | [_], _ => rfl⟩

/-! ### _law_fits(_law_assignment, _law_clause): slots 0 _law_assignment, 1 _law_clause, 2 _law_number -/
abbrev s__law_fits : Stmt := top 26
def d__law_fits : MS :=
  (sRet (mOpS neO (mLc [2] (mBind (mNameV 1) seqD) (bName 2) (mBl (mOpS eqO (mMap O.sh (mBind (mSubN 0 (mMap O.toD (mOpS (liftI subI) (mCall (f1 absD) (mConsB true (mNameB 2) (mPure []))) (mMap (fun d => ((none : Option Nat), O.sh d)) (mPure (.int 1)))))) asSh)) (mMap (fun o => ((none : Option Nat), o)) (mCall (f1 intD) (mConsB true (mMap (fun o => ((none : Option Nat), o)) (mOpN 2 (liftB fun i j => decide (j < i)) (mMap (fun d => ((none : Option Nat), O.sh d)) (mPure (.int 0))))) (mPure [])))))) (mPure (.int 1))) (mMap (fun o => ((none : Option Nat), o)) (mLst (mPure [])))))
def sem__law_fits : Sem := semOf 3 2 [0, 1] d__law_fits
theorem sc__law_fits : FnScope ["_law_assignment", "_law_clause", "_law_number"] ["_law_assignment", "_law_clause"] (defScope s__law_fits) := ⟨rfl, rfl, rfl, by decide +kernel, rfl, by decide +kernel, by decide +kernel⟩
theorem ok__law_fits {P : Program} {w : World} {K : PySem.W.Frag} {mg : Str → Option Value} {base : Heap} (T : Txt mg) {f : Addr} {fd : FuncData} (F : Fun K "_law_fits" "_law_fits" s__law_fits f fd) (hm : mg "_law_fits" = some (.ref f)) : Cal P w K mg base 1 "_law_fits" ["_law_assignment", "_law_clause"] sem__law_fits :=
  ⟨f, fd, fn_D (k := 0) (N := ["_law_assignment", "_law_clause", "_law_number"]) F sc__law_fits (by decide) (fun cdv A outer s H E hr => have sc := sc__law_fits
    (dS_one (dS_ret (de_cmpS (op_neD (hu64 hr)) ne_sem (dE_lc (W' := W0) (own := [("_law_number", 2)]) rfl sc.nd (blkOk_by (by rfl)) (dI_seq (fun h => pi_list h) (fun h => pi_tup h) (dV_nameV (pv 1))) (fun s H C cl fp => (dG_name (pg_name sc.nd rfl (by first | exact Or.inl rfl | exact Or.inr rfl)))) (fun s H C cl fp => (dTs_one (dT_cmpS (op_eqD (hu64 hr)) eq_sem (dE_V (dV_B (dB_subN (hu_of hr) (pv 0) (dV_E (de_opS op_sub sub_sem (dE_callB call_abs (Call1.op abs_sem) rfl (T.m "abs" (by decide)) PyProof.Rows.boot_abs (dBs_cons (dB_name (pv 2)) dBs_nil) (by decide) (by decide)) (dB_V dV_int))) (by intro _ _; rfl) (by intro _ _; rfl)))) (dB_E (dE_callT call_int1 (Call1.op int_sem) rfl (T.m "int" (by decide)) PyProof.Rows.boot_int (dBs_cons (dB_E (de_cmpN op_gt gt_sem (pv 2) (dB_V dV_int) (nomark _))) dBs_nil) (by decide) (by decide))) (nomark _)))) (fun s H C cl fp => dV_int)) (dB_E (dE_lst dVs_nil)) (nomark _))))), hm, F.kp, F.binds fun _ _ _ _ _ _ us hl => match us, hl with | [_, _], _ => rfl⟩

/-! ### _law_models(_law_many, _law_clauses, _law_assumed): slots 0 _law_many, 1 _law_clauses, 2 _law_assumed, 3 _law_found, 4 _law_bits, 5 _law_clause, 6 _law_number -/
abbrev s__law_models : Stmt := top 27
def d__law_models : MS :=
  (sSeq (sAsg 3 (mLst (mPure [])))
  (sSeq (sFor (mBind (mMap O.toD (mCallF sem__law_rows [some 0] (mHas 0 (mPure [])))) seqD) (bName 4)
  (sIf (mBl (mOpS eqO (mLc [5] (mBind (mNameV 1) seqD) (bName 5) (mMap (fun b => !b) (mTru (mMap (fun o => ((none : Option Nat), o)) (mCallF sem__law_fits [some 4, some 5] (mHas 4 (mHas 5 (mPure []))))))) (mPure (.int 1))) (mMap (fun o => ((none : Option Nat), o)) (mLst (mPure []))))) (sIf (mBl (mOpS eqO (mLc [6] (mBind (mNameV 2) seqD) (bName 6) (mMap (fun b => !b) (mTru (mMap (fun o => ((none : Option Nat), o)) (mCallF sem__law_fits [some 4, none] (mHas 4 (mConsO (mMap O.sh (mTup (mCons (mNameV 6) (mPure [])))) (mPure []))))))) (mPure (.int 1))) (mMap (fun o => ((none : Option Nat), o)) (mLst (mPure []))))) (sApp 3 (mNameV 4)) sNext) sNext))
  (sRet (mNameM 3))))
def sem__law_models : Sem := semOf 7 3 [0, 1, 2] d__law_models
theorem sc__law_models : FnScope ["_law_many", "_law_clauses", "_law_assumed", "_law_found", "_law_bits", "_law_clause", "_law_number"] ["_law_many", "_law_clauses", "_law_assumed"] (defScope s__law_models) := ⟨rfl, rfl, rfl, by decide +kernel, rfl, by decide +kernel, by decide +kernel⟩
theorem ok__law_models {P : Program} {w : World} {K : PySem.W.Frag} {mg : Str → Option Value} {base : Heap} (T : Txt mg) (c__law_rows : Cal P w K mg base 2 "_law_rows" ["_law_many"] sem__law_rows) (c__law_fits : Cal P w K mg base 1 "_law_fits" ["_law_assignment", "_law_clause"] sem__law_fits) {f : Addr} {fd : FuncData} (F : Fun K "_law_models" "_law_models" s__law_models f fd) (hm : mg "_law_models" = some (.ref f)) : Cal P w K mg base 3 "_law_models" ["_law_many", "_law_clauses", "_law_assumed"] sem__law_models :=
  ⟨f, fd, fn_D (k := 2) (N := ["_law_many", "_law_clauses", "_law_assumed", "_law_found", "_law_bits", "_law_clause", "_law_number"]) F sc__law_models (by decide) (fun cdv A outer s H E hr => have sc := sc__law_models
    (dS_cons (dS_set (i := 3) (fun _ h => ps_set sc.nd rfl (by first | exact Or.inl rfl | exact Or.inr rfl) h) (dE_lst dVs_nil) (by decide))
    (dS_cons (dS_for (fun g tb hg hb => ps_for PassesOwn.never rfl (dI_seq (fun h => pi_list h) (fun h => pi_tup h) (dV_E (de_callC c__law_rows hr (by decide) rfl (dA_slot (pv 0) dA_nil)))) hg hb) (fun _ _ _ z => z) (dG_name (pg_name sc.nd rfl (by first | exact Or.inl rfl | exact Or.inr rfl)))
    (dS_one (dS_if (dT_cmpS (op_eqD (hu64 hr)) eq_sem (dE_lc (W' := W0) (own := [("_law_clause", 5)]) rfl sc.nd (blkOk_by (by rfl)) (dI_seq (fun h => pi_list h) (fun h => pi_tup h) (dV_nameV (pv 1))) (fun s H C cl fp => (dG_name (pg_name sc.nd rfl (by first | exact Or.inl rfl | exact Or.inr rfl)))) (fun s H C cl fp => (dTs_one (dT_not (dT_tru (dB_E (de_callC c__law_fits hr (by decide) rfl (dA_slot (pv 4) (dA_slot (pv 5) dA_nil)))))))) (fun s H C cl fp => dV_int)) (dB_E (dE_lst dVs_nil)) (nomark _)) (dS_one (dS_if (dT_cmpS (op_eqD (hu64 hr)) eq_sem (dE_lc (W' := W0) (own := [("_law_number", 6)]) rfl sc.nd (blkOk_by (by rfl)) (dI_seq (fun h => pi_list h) (fun h => pi_tup h) (dV_nameV (pv 2))) (fun s H C cl fp => (dG_name (pg_name sc.nd rfl (by first | exact Or.inl rfl | exact Or.inr rfl)))) (fun s H C cl fp => (dTs_one (dT_not (dT_tru (dB_E (de_callC c__law_fits hr (by decide) rfl (dA_slot (pv 4) (dA_push (dE_V (dV_tup (dVs_cons (dV_nameV (pv 6)) dVs_nil))) dA_nil)))))))) (fun s H C cl fp => dV_int)) (dB_E (dE_lst dVs_nil)) (nomark _)) (dS_one (dS_app (i := 3) (fun _ h => ps_expr (pe_bm PySem.F.plainAttrs_list PySem.F.slot_list_append PySem.F.type_list_append mt_append (pv 3) h)) (dV_nameV (pv 4)))) dS_nil)) dS_nil)) (by decide))
    (dS_one (dS_ret (dE_nameM (pv 3))))))), hm, F.kp, F.binds fun _ _ _ _ _ _ us hl => match us, hl with | [_, _, _], _ => rfl⟩

/-! ### law(_law_script): slots 0 _law_script, 1 _law_pen_here, 2 _law_many, 3 _law_lap, 4 _law_one, 5 _law_two, 6 _law_variable, 7 _law_row, 8 _law_lines, 9 _law_told, 10 _law_bits, 11 _law_clause -/
abbrev s_law : Stmt := top 29
def d_law : MS :=
  (sSeq (sAsg 1 (mCallF sem__law_pen [some 0] (mHas 0 (mPure []))))
  (sSeq (sAsg 2 (mOpS addD (mMap O.sh (mPure (.int 1))) (mMap (fun o => ((none : Option Nat), o)) (mCallF sem__law_draw [some 1, none] (mHas 1 (mConsO (mMap O.sh (mPure (.int 6))) (mPure [])))))))
  (sSeq (sFor (mBind (mCons (mPure (.int 6)) (mPure [])) rng1) (bName 3)
  (sSeq (sPar 4 5 (mConsO (mCallF sem__law_drawn_clause [some 1, some 2, none] (mHas 1 (mHas 2 (mConsO (mMap O.sh (mPure (.int 3))) (mPure []))))) (mConsO (mCallF sem__law_drawn_clause [some 1, some 2, none] (mHas 1 (mHas 2 (mConsO (mMap O.sh (mPure (.int 3))) (mPure []))))) (mPure []))))
  (sFor (mBind (mCons (mPure (.int 1)) (mCons (mMap O.toD (mOpN 2 addD (mMap (fun d => ((none : Option Nat), O.sh d)) (mPure (.int 1))))) (mPure []))) rng2) (bName 6)
  (sSeq (sIf (mBl (mOpS neO (mCallF sem_resolvent [some 4, some 5, some 6] (mHas 4 (mHas 5 (mHas 6 (mPure []))))) (mMap (fun o => ((none : Option Nat), o)) (mCallF sem__law_resolved [some 4, some 5, some 6] (mHas 4 (mHas 5 (mHas 6 (mPure [])))))))) (sRet (mMap O.sh (mPure (.bl false)))) sNext)
  (sIf (mBl (mOpS neO (mCallF sem_resolvent [some 5, some 4, some 6] (mHas 5 (mHas 4 (mHas 6 (mPure []))))) (mMap (fun o => ((none : Option Nat), o)) (mCallF sem__law_resolved [some 4, some 5, some 6] (mHas 4 (mHas 5 (mHas 6 (mPure [])))))))) (sRet (mMap O.sh (mPure (.bl false)))) sNext)))))
  (sSeq (sAsg 7 (mCallF sem__law_drawn_row [some 1, some 2, none] (mHas 1 (mHas 2 (mConsO (mOpS addD (mMap O.sh (mPure (.int 2))) (mMap (fun o => ((none : Option Nat), o)) (mCallF sem__law_draw [some 1, none] (mHas 1 (mConsO (mMap O.sh (mPure (.int 8))) (mPure [])))))) (mPure []))))))
  (sSeq (sAsg 8 (mCallF sem__law_drawn_lines [some 1, some 7, none] (mHas 1 (mHas 7 (mConsO (mOpS addD (mMap O.sh (mPure (.int 4))) (mMap (fun o => ((none : Option Nat), o)) (mCallF sem__law_draw [some 1, none] (mHas 1 (mConsO (mMap O.sh (mPure (.int 6))) (mPure [])))))) (mPure []))))))
  (sSeq (sAsg 9 (mCallF sem_line_clauses [some 7, some 8] (mHas 7 (mHas 8 (mPure [])))))
  (sSeq (sIf (mBl (mOpN 9 neO (mMap (fun o => ((none : Option Nat), o)) (mCallF sem__law_line_clauses [some 7, some 8] (mHas 7 (mHas 8 (mPure []))))))) (sRet (mMap O.sh (mPure (.bl false)))) sNext)
  (sSeq (sFor (mBind (mMap O.toD (mCallF sem__law_models [some 2, some 7, none] (mHas 2 (mHas 7 (mConsO (mMap O.sh (mTup (mPure []))) (mPure [])))))) seqD) (bName 10)
  (sIf (mBl (mOpS neO (mLc [11] (mBind (mNameV 9) seqD) (bName 11) (mMap (fun b => !b) (mTru (mMap (fun o => ((none : Option Nat), o)) (mCallF sem__law_fits [some 10, some 11] (mHas 10 (mHas 11 (mPure []))))))) (mPure (.int 1))) (mMap (fun o => ((none : Option Nat), o)) (mLst (mPure []))))) (sRet (mMap O.sh (mPure (.bl false)))) sNext))
  (sRet (mMap O.sh (mAndV (mMap O.toD (mOpS eqO (mCallF sem_line_clauses [none, some 8] (mConsO (mLc [11] (mBind (mNameV 7) seqD) (bName 11) (mPure true) (mMap O.toD (mCall (f1 listD) (mConsB true (mNameB 11) (mPure []))))) (mHas 8 (mPure [])))) (mNameB 9))) (mMap O.toD (mOpS eqO (mCallF sem_line_clauses [some 7, none] (mHas 7 (mConsO (mMap O.sh (mTup (mPure []))) (mPure [])))) (mMap (fun d => ((none : Option Nat), O.sh d)) (mTup (mPure []))))))))))))))))
def sem_law : Sem := semOf 12 1 [0] d_law
theorem sc_law : FnScope ["_law_script", "_law_pen_here", "_law_many", "_law_lap", "_law_one", "_law_two", "_law_variable", "_law_row", "_law_lines", "_law_told", "_law_bits", "_law_clause"] ["_law_script"] (defScope s_law) := ⟨rfl, rfl, rfl, by decide +kernel, rfl, by decide +kernel, by decide +kernel⟩
theorem ok_law_fn {P : Program} {w : World} {K : PySem.W.Frag} {mg : Str → Option Value} {base : Heap} (T : Txt mg) (c__law_pen : Cal P w K mg base 1 "_law_pen" ["_law_script"] sem__law_pen) (c__law_draw : Cal P w K mg base 1 "_law_draw" ["_law_pen_here", "_law_many"] sem__law_draw) (c__law_drawn_clause : Cal P w K mg base 3 "_law_drawn_clause" ["_law_pen_here", "_law_many", "_law_most"] sem__law_drawn_clause) (c__law_resolved : Cal P w K mg base 2 "_law_resolved" ["_law_one", "_law_two", "_law_variable"] sem__law_resolved) (c_resolvent : Cal P w K mg base 1 "resolvent" ["one", "other", "variable"] sem_resolvent) (c__law_drawn_row : Cal P w K mg base 4 "_law_drawn_row" ["_law_pen_here", "_law_many", "_law_rows_here"] sem__law_drawn_row) (c__law_drawn_lines : Cal P w K mg base 5 "_law_drawn_lines" ["_law_pen_here", "_law_clauses", "_law_many"] sem__law_drawn_lines) (c_line_clauses : Cal P w K mg base 14 "line_clauses" ["clauses", "lines"] sem_line_clauses) (c__law_line_clauses : Cal P w K mg base 4 "_law_line_clauses" ["_law_clauses", "_law_lines"] sem__law_line_clauses) (c__law_models : Cal P w K mg base 3 "_law_models" ["_law_many", "_law_clauses", "_law_assumed"] sem__law_models) (c__law_fits : Cal P w K mg base 1 "_law_fits" ["_law_assignment", "_law_clause"] sem__law_fits) {f : Addr} {fd : FuncData} (F : Fun K "law" "law" s_law f fd) : FnOk P w K mg base CX0 15 f fd ["_law_script"] (spD ⟨K, mg⟩ 1 sem_law) :=
  fn_D (k := 14) (N := ["_law_script", "_law_pen_here", "_law_many", "_law_lap", "_law_one", "_law_two", "_law_variable", "_law_row", "_law_lines", "_law_told", "_law_bits", "_law_clause"]) F sc_law (by decide) (fun cdv A outer s H E hr => have sc := sc_law
    (dS_cons (dS_set (i := 1) (fun _ h => ps_set sc.nd rfl (by first | exact Or.inl rfl | exact Or.inr rfl) h) (de_callC c__law_pen hr (by decide) rfl (dA_slot (pv 0) dA_nil)) (by decide))
    (dS_cons (dS_set (i := 2) (fun _ h => ps_set sc.nd rfl (by first | exact Or.inl rfl | exact Or.inr rfl) h) (de_opS op_addA add_sem (dE_V dV_int) (dB_E (de_callC c__law_draw hr (by decide) rfl (dA_slot (pv 1) (dA_push (dE_V dV_int) dA_nil))))) (by decide))
    (dS_cons (dS_for (fun g tb hg hb => ps_for PassesOwn.never rfl (dI_rng1 (pi_range1 rfl (T.m "range" (by decide)) (dVs_cons dV_int dVs_nil))) hg hb) (fun _ _ _ z => z) (dG_name (pg_name sc.nd rfl (by first | exact Or.inl rfl | exact Or.inr rfl)))
    (dS_cons (dS_par (fun _ h => ps_par rfl sc.nd (i := 4) (j := 5) rfl rfl (by decide) rfl rfl h rfl) (dEs_cons (de_callC c__law_drawn_clause hr (by decide) rfl (dA_slot (pv 1) (dA_slot (pv 2) (dA_push (dE_V dV_int) dA_nil)))) (dEs_cons (de_callC c__law_drawn_clause hr (by decide) rfl (dA_slot (pv 1) (dA_slot (pv 2) (dA_push (dE_V dV_int) dA_nil)))) dEs_nil)) (by decide) (by decide) (by decide))
    (dS_one (dS_for (fun g tb hg hb => ps_for PassesOwn.never rfl (dI_rng2 (pi_range2 rfl (T.m "range" (by decide)) (dVs_cons dV_int (dVs_cons (dV_E (de_opN op_addA add_sem (pv 2) (dB_V dV_int))) dVs_nil)))) hg hb) (fun _ _ _ z => z) (dG_name (pg_name sc.nd rfl (by first | exact Or.inl rfl | exact Or.inr rfl)))
    (dS_cons (dS_if (dT_cmpS (op_neD (hu64 hr)) ne_sem (de_callC c_resolvent hr (by decide) rfl (dA_slot (pv 4) (dA_slot (pv 5) (dA_slot (pv 6) dA_nil)))) (dB_E (de_callC c__law_resolved hr (by decide) rfl (dA_slot (pv 4) (dA_slot (pv 5) (dA_slot (pv 6) dA_nil))))) (nomark _)) (dS_one (dS_ret (dE_V dV_bl))) dS_nil)
    (dS_one (dS_if (dT_cmpS (op_neD (hu64 hr)) ne_sem (de_callC c_resolvent hr (by decide) rfl (dA_slot (pv 5) (dA_slot (pv 4) (dA_slot (pv 6) dA_nil)))) (dB_E (de_callC c__law_resolved hr (by decide) rfl (dA_slot (pv 4) (dA_slot (pv 5) (dA_slot (pv 6) dA_nil))))) (nomark _)) (dS_one (dS_ret (dE_V dV_bl))) dS_nil))) (by decide)))) (by decide))
    (dS_cons (dS_set (i := 7) (fun _ h => ps_set sc.nd rfl (by first | exact Or.inl rfl | exact Or.inr rfl) h) (de_callC c__law_drawn_row hr (by decide) rfl (dA_slot (pv 1) (dA_slot (pv 2) (dA_push (de_opS op_addA add_sem (dE_V dV_int) (dB_E (de_callC c__law_draw hr (by decide) rfl (dA_slot (pv 1) (dA_push (dE_V dV_int) dA_nil))))) dA_nil)))) (by decide))
    (dS_cons (dS_set (i := 8) (fun _ h => ps_set sc.nd rfl (by first | exact Or.inl rfl | exact Or.inr rfl) h) (de_callC c__law_drawn_lines hr (by decide) rfl (dA_slot (pv 1) (dA_slot (pv 7) (dA_push (de_opS op_addA add_sem (dE_V dV_int) (dB_E (de_callC c__law_draw hr (by decide) rfl (dA_slot (pv 1) (dA_push (dE_V dV_int) dA_nil))))) dA_nil)))) (by decide))
    (dS_cons (dS_set (i := 9) (fun _ h => ps_set sc.nd rfl (by first | exact Or.inl rfl | exact Or.inr rfl) h) (de_callC c_line_clauses hr (by decide) rfl (dA_slot (pv 7) (dA_slot (pv 8) dA_nil))) (by decide))
    (dS_cons (dS_if (dT_cmpN (op_neD (hu64 hr)) ne_sem (pv 9) (dB_E (de_callC c__law_line_clauses hr (by decide) rfl (dA_slot (pv 7) (dA_slot (pv 8) dA_nil)))) (nomark _)) (dS_one (dS_ret (dE_V dV_bl))) dS_nil)
    (dS_cons (dS_for (fun g tb hg hb => ps_for PassesOwn.never rfl (dI_seq (fun h => pi_list h) (fun h => pi_tup h) (dV_E (de_callC c__law_models hr (by decide) rfl (dA_slot (pv 2) (dA_slot (pv 7) (dA_push (dE_V (dV_tup dVs_nil)) dA_nil)))))) hg hb) (fun _ _ _ z => z) (dG_name (pg_name sc.nd rfl (by first | exact Or.inl rfl | exact Or.inr rfl)))
    (dS_one (dS_if (dT_cmpS (op_neD (hu64 hr)) ne_sem (dE_lc (W' := W0) (own := [("_law_clause", 11)]) rfl sc.nd (blkOk_by (by rfl)) (dI_seq (fun h => pi_list h) (fun h => pi_tup h) (dV_nameV (pv 9))) (fun s H C cl fp => (dG_name (pg_name sc.nd rfl (by first | exact Or.inl rfl | exact Or.inr rfl)))) (fun s H C cl fp => (dTs_one (dT_not (dT_tru (dB_E (de_callC c__law_fits hr (by decide) rfl (dA_slot (pv 10) (dA_slot (pv 11) dA_nil)))))))) (fun s H C cl fp => dV_int)) (dB_E (dE_lst dVs_nil)) (nomark _)) (dS_one (dS_ret (dE_V dV_bl))) dS_nil)) (by decide))
    (dS_one (dS_ret (dE_V (dV_and (dV_E (de_cmpS (op_eqD (hu64 hr)) eq_sem (de_callC c_line_clauses hr (by decide) rfl (dA_push (dE_lc (W' := W0) (own := [("_law_clause", 11)]) rfl sc.nd (blkOk_by (by rfl)) (dI_seq (fun h => pi_list h) (fun h => pi_tup h) (dV_nameV (pv 7))) (fun s H C cl fp => (dG_name (pg_name sc.nd rfl (by first | exact Or.inl rfl | exact Or.inr rfl)))) (fun s H C cl fp => dTs_nil) (fun s H C cl fp => (dV_E (dE_callT call_list_of (Call1.op list_sem) rfl (T.m "list" (by decide)) PyProof.Rows.boot_list (dBs_cons (dB_name (pv 11)) dBs_nil) (by decide) (by decide))))) (dA_slot (pv 8) dA_nil))) (dB_name (pv 9)) (nomark _))) (dV_one (dV_E (de_cmpS (op_eqD (hu64 hr)) eq_sem (de_callC c_line_clauses hr (by decide) rfl (dA_slot (pv 7) (dA_push (dE_V (dV_tup dVs_nil)) dA_nil))) (dB_V (dV_tup dVs_nil)) (nomark _)))))))))))))))))

/-! ### what the top has written -/
theorem all_mk {l : PySem.W.OpenLaw} {w : World} {K : PySem.W.Frag} {h : Heap} {mg : Str → Option Value} {fa : Addr} (X : K.In h) (G : h.Ns mainGlobals mg) (hfa : mg "law" = some (.ref fa))
    (truth : ∀ ns : List Int, ns.length ≤ 63 → ∃ fs, sem_law [.sh (.fz (ns.map D.int))] = .ok (.sh (.bl true)) fs)
    {f0 : Addr} {od0 an0 : Option Addr} {sl0 : Array (Option Value)} {oc0 kV0 dc0 pm0 cd0 ct0 : Value} (a0 : PySem.W.nsIn K mainGlobals "_law_pen" = some (some (.ref f0))) (l0 : K.lookup f0 = some ⟨oc0, od0, .func (PySem.W.fnOf "_law_pen" "_law_pen" (defArgs s__law_pen) (defBody s__law_pen) (defScope s__law_pen) .none kV0 dc0 pm0 an0 cd0 ct0), sl0⟩) (c0 : PySem.W.codeIn K cd0 "_law_pen" = true) (k0 : PySem.W.keepIn K (.ref f0) = true)
    {f1 : Addr} {od1 an1 : Option Addr} {sl1 : Array (Option Value)} {oc1 kV1 dc1 pm1 cd1 ct1 : Value} (a1 : PySem.W.nsIn K mainGlobals "_law_draw" = some (some (.ref f1))) (l1 : K.lookup f1 = some ⟨oc1, od1, .func (PySem.W.fnOf "_law_draw" "_law_draw" (defArgs s__law_draw) (defBody s__law_draw) (defScope s__law_draw) .none kV1 dc1 pm1 an1 cd1 ct1), sl1⟩) (c1 : PySem.W.codeIn K cd1 "_law_draw" = true) (k1 : PySem.W.keepIn K (.ref f1) = true)
    {f2 : Addr} {od2 an2 : Option Addr} {sl2 : Array (Option Value)} {oc2 kV2 dc2 pm2 cd2 ct2 : Value} (a2 : PySem.W.nsIn K mainGlobals "_law_pick" = some (some (.ref f2))) (l2 : K.lookup f2 = some ⟨oc2, od2, .func (PySem.W.fnOf "_law_pick" "_law_pick" (defArgs s__law_pick) (defBody s__law_pick) (defScope s__law_pick) .none kV2 dc2 pm2 an2 cd2 ct2), sl2⟩) (c2 : PySem.W.codeIn K cd2 "_law_pick" = true) (k2 : PySem.W.keepIn K (.ref f2) = true)
    {f3 : Addr} {od3 an3 : Option Addr} {sl3 : Array (Option Value)} {oc3 kV3 dc3 pm3 cd3 ct3 : Value} (a3 : PySem.W.nsIn K mainGlobals "_law_drawn_clause" = some (some (.ref f3))) (l3 : K.lookup f3 = some ⟨oc3, od3, .func (PySem.W.fnOf "_law_drawn_clause" "_law_drawn_clause" (defArgs s__law_drawn_clause) (defBody s__law_drawn_clause) (defScope s__law_drawn_clause) .none kV3 dc3 pm3 an3 cd3 ct3), sl3⟩) (c3 : PySem.W.codeIn K cd3 "_law_drawn_clause" = true) (k3 : PySem.W.keepIn K (.ref f3) = true)
    {f4 : Addr} {od4 an4 : Option Addr} {sl4 : Array (Option Value)} {oc4 kV4 dc4 pm4 cd4 ct4 : Value} (a4 : PySem.W.nsIn K mainGlobals "_law_sorted" = some (some (.ref f4))) (l4 : K.lookup f4 = some ⟨oc4, od4, .func (PySem.W.fnOf "_law_sorted" "_law_sorted" (defArgs s__law_sorted) (defBody s__law_sorted) (defScope s__law_sorted) .none kV4 dc4 pm4 an4 cd4 ct4), sl4⟩) (c4 : PySem.W.codeIn K cd4 "_law_sorted" = true) (k4 : PySem.W.keepIn K (.ref f4) = true)
    {f5 : Addr} {od5 an5 : Option Addr} {sl5 : Array (Option Value)} {oc5 kV5 dc5 pm5 cd5 ct5 : Value} (a5 : PySem.W.nsIn K mainGlobals "_law_resolved" = some (some (.ref f5))) (l5 : K.lookup f5 = some ⟨oc5, od5, .func (PySem.W.fnOf "_law_resolved" "_law_resolved" (defArgs s__law_resolved) (defBody s__law_resolved) (defScope s__law_resolved) .none kV5 dc5 pm5 an5 cd5 ct5), sl5⟩) (c5 : PySem.W.codeIn K cd5 "_law_resolved" = true) (k5 : PySem.W.keepIn K (.ref f5) = true)
    {f6 : Addr} {od6 an6 : Option Addr} {sl6 : Array (Option Value)} {oc6 kV6 dc6 pm6 cd6 ct6 : Value} (a6 : PySem.W.nsIn K mainGlobals "resolvent" = some (some (.ref f6))) (l6 : K.lookup f6 = some ⟨oc6, od6, .func (PySem.W.fnOf "resolvent" "resolvent" (defArgs s_resolvent) (defBody s_resolvent) (defScope s_resolvent) .none kV6 dc6 pm6 an6 cd6 ct6), sl6⟩) (c6 : PySem.W.codeIn K cd6 "resolvent" = true) (k6 : PySem.W.keepIn K (.ref f6) = true)
    {f7 : Addr} {od7 an7 : Option Addr} {sl7 : Array (Option Value)} {oc7 kV7 dc7 pm7 cd7 ct7 : Value} (a7 : PySem.W.nsIn K mainGlobals "_law_drawn_row" = some (some (.ref f7))) (l7 : K.lookup f7 = some ⟨oc7, od7, .func (PySem.W.fnOf "_law_drawn_row" "_law_drawn_row" (defArgs s__law_drawn_row) (defBody s__law_drawn_row) (defScope s__law_drawn_row) .none kV7 dc7 pm7 an7 cd7 ct7), sl7⟩) (c7 : PySem.W.codeIn K cd7 "_law_drawn_row" = true) (k7 : PySem.W.keepIn K (.ref f7) = true)
    {f8 : Addr} {od8 an8 : Option Addr} {sl8 : Array (Option Value)} {oc8 kV8 dc8 pm8 cd8 ct8 : Value} (a8 : PySem.W.nsIn K mainGlobals "_law_is_whole" = some (some (.ref f8))) (l8 : K.lookup f8 = some ⟨oc8, od8, .func (PySem.W.fnOf "_law_is_whole" "_law_is_whole" (defArgs s__law_is_whole) (defBody s__law_is_whole) (defScope s__law_is_whole) .none kV8 dc8 pm8 an8 cd8 ct8), sl8⟩) (c8 : PySem.W.codeIn K cd8 "_law_is_whole" = true) (k8 : PySem.W.keepIn K (.ref f8) = true)
    {f9 : Addr} {od9 an9 : Option Addr} {sl9 : Array (Option Value)} {oc9 kV9 dc9 pm9 cd9 ct9 : Value} (a9 : PySem.W.nsIn K mainGlobals "_law_is_index" = some (some (.ref f9))) (l9 : K.lookup f9 = some ⟨oc9, od9, .func (PySem.W.fnOf "_law_is_index" "_law_is_index" (defArgs s__law_is_index) (defBody s__law_is_index) (defScope s__law_is_index) .none kV9 dc9 pm9 an9 cd9 ct9), sl9⟩) (c9 : PySem.W.codeIn K cd9 "_law_is_index" = true) (k9 : PySem.W.keepIn K (.ref f9) = true)
    {f10 : Addr} {od10 an10 : Option Addr} {sl10 : Array (Option Value)} {oc10 kV10 dc10 pm10 cd10 ct10 : Value} (a10 : PySem.W.nsIn K mainGlobals "_law_line_of" = some (some (.ref f10))) (l10 : K.lookup f10 = some ⟨oc10, od10, .func (PySem.W.fnOf "_law_line_of" "_law_line_of" (defArgs s__law_line_of) (defBody s__law_line_of) (defScope s__law_line_of) .none kV10 dc10 pm10 an10 cd10 ct10), sl10⟩) (c10 : PySem.W.codeIn K cd10 "_law_line_of" = true) (k10 : PySem.W.keepIn K (.ref f10) = true)
    {f11 : Addr} {od11 an11 : Option Addr} {sl11 : Array (Option Value)} {oc11 kV11 dc11 pm11 cd11 ct11 : Value} (a11 : PySem.W.nsIn K mainGlobals "_law_line_clauses" = some (some (.ref f11))) (l11 : K.lookup f11 = some ⟨oc11, od11, .func (PySem.W.fnOf "_law_line_clauses" "_law_line_clauses" (defArgs s__law_line_clauses) (defBody s__law_line_clauses) (defScope s__law_line_clauses) .none kV11 dc11 pm11 an11 cd11 ct11), sl11⟩) (c11 : PySem.W.codeIn K cd11 "_law_line_clauses" = true) (k11 : PySem.W.keepIn K (.ref f11) = true)
    {f12 : Addr} {od12 an12 : Option Addr} {sl12 : Array (Option Value)} {oc12 kV12 dc12 pm12 cd12 ct12 : Value} (a12 : PySem.W.nsIn K mainGlobals "_law_drawn_lines" = some (some (.ref f12))) (l12 : K.lookup f12 = some ⟨oc12, od12, .func (PySem.W.fnOf "_law_drawn_lines" "_law_drawn_lines" (defArgs s__law_drawn_lines) (defBody s__law_drawn_lines) (defScope s__law_drawn_lines) .none kV12 dc12 pm12 an12 cd12 ct12), sl12⟩) (c12 : PySem.W.codeIn K cd12 "_law_drawn_lines" = true) (k12 : PySem.W.keepIn K (.ref f12) = true)
    {f13 : Addr} {od13 an13 : Option Addr} {sl13 : Array (Option Value)} {oc13 kV13 dc13 pm13 cd13 ct13 : Value} (a13 : PySem.W.nsIn K mainGlobals "is_count" = some (some (.ref f13))) (l13 : K.lookup f13 = some ⟨oc13, od13, .func (PySem.W.fnOf "is_count" "is_count" (defArgs s_is_count) (defBody s_is_count) (defScope s_is_count) .none kV13 dc13 pm13 an13 cd13 ct13), sl13⟩) (c13 : PySem.W.codeIn K cd13 "is_count" = true) (k13 : PySem.W.keepIn K (.ref f13) = true)
    {f14 : Addr} {od14 an14 : Option Addr} {sl14 : Array (Option Value)} {oc14 kV14 dc14 pm14 cd14 ct14 : Value} (a14 : PySem.W.nsIn K mainGlobals "chain_clause" = some (some (.ref f14))) (l14 : K.lookup f14 = some ⟨oc14, od14, .func (PySem.W.fnOf "chain_clause" "chain_clause" (defArgs s_chain_clause) (defBody s_chain_clause) (defScope s_chain_clause) .none kV14 dc14 pm14 an14 cd14 ct14), sl14⟩) (c14 : PySem.W.codeIn K cd14 "chain_clause" = true) (k14 : PySem.W.keepIn K (.ref f14) = true)
    {f15 : Addr} {od15 an15 : Option Addr} {sl15 : Array (Option Value)} {oc15 kV15 dc15 pm15 cd15 ct15 : Value} (a15 : PySem.W.nsIn K mainGlobals "line_clause" = some (some (.ref f15))) (l15 : K.lookup f15 = some ⟨oc15, od15, .func (PySem.W.fnOf "line_clause" "line_clause" (defArgs s_line_clause) (defBody s_line_clause) (defScope s_line_clause) .none kV15 dc15 pm15 an15 cd15 ct15), sl15⟩) (c15 : PySem.W.codeIn K cd15 "line_clause" = true) (k15 : PySem.W.keepIn K (.ref f15) = true)
    {f16 : Addr} {od16 an16 : Option Addr} {sl16 : Array (Option Value)} {oc16 kV16 dc16 pm16 cd16 ct16 : Value} (a16 : PySem.W.nsIn K mainGlobals "all_clauses" = some (some (.ref f16))) (l16 : K.lookup f16 = some ⟨oc16, od16, .func (PySem.W.fnOf "all_clauses" "all_clauses" (defArgs s_all_clauses) (defBody s_all_clauses) (defScope s_all_clauses) .none kV16 dc16 pm16 an16 cd16 ct16), sl16⟩) (c16 : PySem.W.codeIn K cd16 "all_clauses" = true) (k16 : PySem.W.keepIn K (.ref f16) = true)
    {f17 : Addr} {od17 an17 : Option Addr} {sl17 : Array (Option Value)} {oc17 kV17 dc17 pm17 cd17 ct17 : Value} (a17 : PySem.W.nsIn K mainGlobals "as_rows" = some (some (.ref f17))) (l17 : K.lookup f17 = some ⟨oc17, od17, .func (PySem.W.fnOf "as_rows" "as_rows" (defArgs s_as_rows) (defBody s_as_rows) (defScope s_as_rows) .none kV17 dc17 pm17 an17 cd17 ct17), sl17⟩) (c17 : PySem.W.codeIn K cd17 "as_rows" = true) (k17 : PySem.W.keepIn K (.ref f17) = true)
    {f18 : Addr} {od18 an18 : Option Addr} {sl18 : Array (Option Value)} {oc18 kV18 dc18 pm18 cd18 ct18 : Value} (a18 : PySem.W.nsIn K mainGlobals "line_clauses" = some (some (.ref f18))) (l18 : K.lookup f18 = some ⟨oc18, od18, .func (PySem.W.fnOf "line_clauses" "line_clauses" (defArgs s_line_clauses) (defBody s_line_clauses) (defScope s_line_clauses) .none kV18 dc18 pm18 an18 cd18 ct18), sl18⟩) (c18 : PySem.W.codeIn K cd18 "line_clauses" = true) (k18 : PySem.W.keepIn K (.ref f18) = true)
    {f19 : Addr} {od19 an19 : Option Addr} {sl19 : Array (Option Value)} {oc19 kV19 dc19 pm19 cd19 ct19 : Value} (a19 : PySem.W.nsIn K mainGlobals "_law_longer" = some (some (.ref f19))) (l19 : K.lookup f19 = some ⟨oc19, od19, .func (PySem.W.fnOf "_law_longer" "_law_longer" (defArgs s__law_longer) (defBody s__law_longer) (defScope s__law_longer) .none kV19 dc19 pm19 an19 cd19 ct19), sl19⟩) (c19 : PySem.W.codeIn K cd19 "_law_longer" = true) (k19 : PySem.W.keepIn K (.ref f19) = true)
    {f20 : Addr} {od20 an20 : Option Addr} {sl20 : Array (Option Value)} {oc20 kV20 dc20 pm20 cd20 ct20 : Value} (a20 : PySem.W.nsIn K mainGlobals "_law_rows" = some (some (.ref f20))) (l20 : K.lookup f20 = some ⟨oc20, od20, .func (PySem.W.fnOf "_law_rows" "_law_rows" (defArgs s__law_rows) (defBody s__law_rows) (defScope s__law_rows) .none kV20 dc20 pm20 an20 cd20 ct20), sl20⟩) (c20 : PySem.W.codeIn K cd20 "_law_rows" = true) (k20 : PySem.W.keepIn K (.ref f20) = true)
    {f21 : Addr} {od21 an21 : Option Addr} {sl21 : Array (Option Value)} {oc21 kV21 dc21 pm21 cd21 ct21 : Value} (a21 : PySem.W.nsIn K mainGlobals "_law_fits" = some (some (.ref f21))) (l21 : K.lookup f21 = some ⟨oc21, od21, .func (PySem.W.fnOf "_law_fits" "_law_fits" (defArgs s__law_fits) (defBody s__law_fits) (defScope s__law_fits) .none kV21 dc21 pm21 an21 cd21 ct21), sl21⟩) (c21 : PySem.W.codeIn K cd21 "_law_fits" = true) (k21 : PySem.W.keepIn K (.ref f21) = true)
    {f22 : Addr} {od22 an22 : Option Addr} {sl22 : Array (Option Value)} {oc22 kV22 dc22 pm22 cd22 ct22 : Value} (a22 : PySem.W.nsIn K mainGlobals "_law_models" = some (some (.ref f22))) (l22 : K.lookup f22 = some ⟨oc22, od22, .func (PySem.W.fnOf "_law_models" "_law_models" (defArgs s__law_models) (defBody s__law_models) (defScope s__law_models) .none kV22 dc22 pm22 an22 cd22 ct22), sl22⟩) (c22 : PySem.W.codeIn K cd22 "_law_models" = true) (k22 : PySem.W.keepIn K (.ref f22) = true)
    {f23 : Addr} {od23 an23 : Option Addr} {sl23 : Array (Option Value)} {oc23 kV23 dc23 pm23 cd23 ct23 : Value} (a23 : PySem.W.nsIn K mainGlobals "law" = some (some (.ref f23))) (l23 : K.lookup f23 = some ⟨oc23, od23, .func (PySem.W.fnOf "law" "law" (defArgs s_law) (defBody s_law) (defScope s_law) .none kV23 dc23 pm23 an23 cd23 ct23), sl23⟩) (c23 : PySem.W.codeIn K cd23 "law" = true) (k23 : PySem.W.keepIn K (.ref f23) = true)
    (z0 : PySem.W.nsIn K mainGlobals "abs" = some none)
    (z1 : PySem.W.nsIn K mainGlobals "any" = some none)
    (z2 : PySem.W.nsIn K mainGlobals "bool" = some none)
    (z3 : PySem.W.nsIn K mainGlobals "int" = some none)
    (z4 : PySem.W.nsIn K mainGlobals "isinstance" = some none)
    (z5 : PySem.W.nsIn K mainGlobals "len" = some none)
    (z6 : PySem.W.nsIn K mainGlobals "list" = some none)
    (z7 : PySem.W.nsIn K mainGlobals "range" = some none)
    (z8 : PySem.W.nsIn K mainGlobals "set" = some none)
    (z9 : PySem.W.nsIn K mainGlobals "sorted" = some none)
    (z10 : PySem.W.nsIn K mainGlobals "tuple" = some none) :
    ∃ fd : FuncData, (∀ (s : Shared) (v : Value), BindsTo s fd ⟨[v], []⟩ [("_law_script", v)]) ∧ ∀ base : Heap, K.In base → base.Ns mainGlobals mg → FnOk l.prog w K mg base CX0 15 fa fd ["_law_script"] (DL.spLaw K) := by
  have e := hfa.symm.trans (PySem.W.mg_of X G a23)
  cases e
  have T : Txt mg := ⟨fun x hx => by
    simp only [List.mem_cons, List.not_mem_nil, or_false] at hx
    rcases hx with rfl | rfl | rfl | rfl | rfl | rfl | rfl | rfl | rfl | rfl | rfl
    · exact PySem.W.mg_none_of X G z0
    · exact PySem.W.mg_none_of X G z1
    · exact PySem.W.mg_none_of X G z2
    · exact PySem.W.mg_none_of X G z3
    · exact PySem.W.mg_none_of X G z4
    · exact PySem.W.mg_none_of X G z5
    · exact PySem.W.mg_none_of X G z6
    · exact PySem.W.mg_none_of X G z7
    · exact PySem.W.mg_none_of X G z8
    · exact PySem.W.mg_none_of X G z9
    · exact PySem.W.mg_none_of X G z10⟩
  have F0 := fun_mk (st := s__law_pen) l0 c0 k0
  have F1 := fun_mk (st := s__law_draw) l1 c1 k1
  have F2 := fun_mk (st := s__law_pick) l2 c2 k2
  have F3 := fun_mk (st := s__law_drawn_clause) l3 c3 k3
  have F4 := fun_mk (st := s__law_sorted) l4 c4 k4
  have F5 := fun_mk (st := s__law_resolved) l5 c5 k5
  have F6 := fun_mk (st := s_resolvent) l6 c6 k6
  have F7 := fun_mk (st := s__law_drawn_row) l7 c7 k7
  have F8 := fun_mk (st := s__law_is_whole) l8 c8 k8
  have F9 := fun_mk (st := s__law_is_index) l9 c9 k9
  have F10 := fun_mk (st := s__law_line_of) l10 c10 k10
  have F11 := fun_mk (st := s__law_line_clauses) l11 c11 k11
  have F12 := fun_mk (st := s__law_drawn_lines) l12 c12 k12
  have F13 := fun_mk (st := s_is_count) l13 c13 k13
  have F14 := fun_mk (st := s_chain_clause) l14 c14 k14
  have F15 := fun_mk (st := s_line_clause) l15 c15 k15
  have F16 := fun_mk (st := s_all_clauses) l16 c16 k16
  have F17 := fun_mk (st := s_as_rows) l17 c17 k17
  have F18 := fun_mk (st := s_line_clauses) l18 c18 k18
  have F19 := fun_mk (st := s__law_longer) l19 c19 k19
  have F20 := fun_mk (st := s__law_rows) l20 c20 k20
  have F21 := fun_mk (st := s__law_fits) l21 c21 k21
  have F22 := fun_mk (st := s__law_models) l22 c22 k22
  have F23 := fun_mk (st := s_law) l23 c23 k23
  refine ⟨PySem.W.fnOf "law" "law" (defArgs s_law) (defBody s_law) (defScope s_law) .none kV23 dc23 pm23 an23 cd23 ct23, fun s v => .of_eq rfl, fun base _ _ => ?_⟩
  have C0 := ok__law_pen (P := l.prog) (w := w) (base := base) T F0 (PySem.W.mg_of X G a0)
  have C1 := ok__law_draw (P := l.prog) (w := w) (base := base) T F1 (PySem.W.mg_of X G a1)
  have C2 := ok__law_pick (P := l.prog) (w := w) (base := base) T C1 F2 (PySem.W.mg_of X G a2)
  have C3 := ok__law_drawn_clause (P := l.prog) (w := w) (base := base) T C1 C2 F3 (PySem.W.mg_of X G a3)
  have C4 := ok__law_sorted (P := l.prog) (w := w) (base := base) T F4 (PySem.W.mg_of X G a4)
  have C5 := ok__law_resolved (P := l.prog) (w := w) (base := base) T C4 F5 (PySem.W.mg_of X G a5)
  have C6 := ok_resolvent (P := l.prog) (w := w) (base := base) T F6 (PySem.W.mg_of X G a6)
  have C7 := ok__law_drawn_row (P := l.prog) (w := w) (base := base) T C3 C2 F7 (PySem.W.mg_of X G a7)
  have C8 := ok__law_is_whole (P := l.prog) (w := w) (base := base) T F8 (PySem.W.mg_of X G a8)
  have C9 := ok__law_is_index (P := l.prog) (w := w) (base := base) T C8 F9 (PySem.W.mg_of X G a9)
  have C10 := ok__law_line_of (P := l.prog) (w := w) (base := base) T C9 C8 C5 F10 (PySem.W.mg_of X G a10)
  have C11 := ok__law_line_clauses (P := l.prog) (w := w) (base := base) T C10 F11 (PySem.W.mg_of X G a11)
  have C12 := ok__law_drawn_lines (P := l.prog) (w := w) (base := base) T C1 C11 C5 C2 F12 (PySem.W.mg_of X G a12)
  have C13 := ok_is_count (P := l.prog) (w := w) (base := base) T F13 (PySem.W.mg_of X G a13)
  have C14 := ok_chain_clause (P := l.prog) (w := w) (base := base) T C13 C6 F14 (PySem.W.mg_of X G a14)
  have C15 := ok_line_clause (P := l.prog) (w := w) (base := base) T C13 C14 F15 (PySem.W.mg_of X G a15)
  have C16 := ok_all_clauses (P := l.prog) (w := w) (base := base) T C15 F16 (PySem.W.mg_of X G a16)
  have C17 := ok_as_rows (P := l.prog) (w := w) (base := base) T F17 (PySem.W.mg_of X G a17) 12
  have C18 := ok_line_clauses (P := l.prog) (w := w) (base := base) T C16 C17 F18 (PySem.W.mg_of X G a18)
  have C19 := ok__law_longer (P := l.prog) (w := w) (base := base) T F19 (PySem.W.mg_of X G a19)
  have C20 := ok__law_rows (P := l.prog) (w := w) (base := base) T C19 F20 (PySem.W.mg_of X G a20)
  have C21 := ok__law_fits (P := l.prog) (w := w) (base := base) T F21 (PySem.W.mg_of X G a21)
  have C22 := ok__law_models (P := l.prog) (w := w) (base := base) T C20 C21 F22 (PySem.W.mg_of X G a22)
  exact fn_law (ok_law_fn T C0 C1 C3 C5 C6 C7 C12 C18 C11 C22 C21 F23) truth
end K24

end

section
set_option Elab.async false
set_option linter.all false
set_option maxRecDepth 100000
namespace K24
open PySem L2 RZ DL PyProof.Rows
theorem w_if {P : OutS → Prop} {m n : MS} {t : M Bool} {ρ ρ' : DL.Env} {b : Bool} (h : t ρ = .ok b ρ') (k1 : b = true → P (m ρ')) (k2 : b = false → P (n ρ')) : P (sIf t m n ρ) := by
  cases b with
  | true => exact w_ifT h (k1 rfl)
  | false => exact w_ifF h (k2 rfl)
theorem intsD_map : ∀ ns : List Int, intsD (ns.map D.int) = some ns
  | [] => rfl
  | n :: ns => by simp only [List.map_cons, intsD, intsD_map ns]
def lits (c : List Int) : D := .tup (c.map D.int)
def without (c : List Int) (v : Int) : List Int := c.filter fun n => !(n == v)
def fin (f : List Int) : Option (List Int) := if (f.any fun n => decide (-n ∈ f)) = true then none else some (sortA (sortU f))
def res (a b : List Int) (v : Int) : Option (List Int) :=
  if v ∈ a ∧ -v ∈ b then fin (without a v ++ without b (-v)) else if -v ∈ a ∧ v ∈ b then fin (without a (-v) ++ without b v) else none
def optD : Option (List Int) → D
  | none => .non
  | some c => lits c
theorem without_len {c : List Int} {v : Int} : (without c v).length ≤ c.length := List.length_filter_le _ _
theorem insU_len (k : Int) : ∀ xs, (insU k xs).length ≤ xs.length + 1
  | [] => by simp [insU]
  | x :: xs => by
    unfold insU
    have := insU_len k xs
    split
    · simp
    · split <;> simp <;> omega
theorem sortU_len : ∀ xs, (sortU xs).length ≤ xs.length
  | [] => by simp [sortU]
  | k :: ks => by
    have h1 := insU_len k (sortU ks)
    have h2 := sortU_len ks
    simp only [sortU, List.length_cons]
    omega
theorem abs_nd {f : List Int} (h : (f.any fun n => decide (-n ∈ f)) = false) : ((sortU f).map absZ).Nodup := by
  rw [List.nodup_iff_pairwise_ne, List.pairwise_map]
  refine (sortU_pw f).imp_of_mem fun {x y} hx hy hlt e => ?_
  rw [mem_sortU] at hx hy
  have hno : ∀ n ∈ f, -n ∉ f := fun n hn z => by
    have := List.any_eq_false.mp h n hn
    simp [z] at this
  unfold absZ at e
  split at e <;> split at e
  · omega
  · exact hno x hx (by rw [e]; exact hy)
  · exact hno y hy (by rw [← e]; exact hx)
  · omega
theorem sortAbsO_of {f : List Int} (hl : f.length < 64) (h : (f.any fun n => decide (-n ∈ f)) = false) : sortAbsO (.lst ((sortU f).map D.int)) = some (intsL (sortA (sortU f))) := by
  unfold sortAbsO
  simp only [intsD_map]
  rw [if_pos ⟨by have := sortU_len f; omega, abs_nd h⟩]
theorem sortSetO_of {f : List Int} (hl : f.length < 64) : sortSetO (.lst (f.map D.int)) = some (intsL (sortU f)) := by
  unfold sortSetO
  simp only [intsD_map]
  rw [if_pos hl]
theorem neg_any {f : List Int} : blsD (f.map fun n => D.bl (decide (-n ∈ f))) = some (f.map fun n => decide (-n ∈ f)) := by
  have go : ∀ (g : Int → Bool) (l : List Int), blsD (l.map fun n => D.bl (g n)) = some (l.map g) := fun g l => by
    induction l with
    | nil => rfl
    | cons x l ih => simp only [List.map_cons, blsD, ih]
  exact go (fun n => decide (-n ∈ f)) f
/-- the two filters -/
theorem two_without {a b : List Int} {u w : Int} (hl : a.length + b.length < 64) : addD (.lst ((a.filter fun n => !(n == u)).map D.int)) (.lst ((b.filter fun n => !(n == w)).map D.int)) = some (intsL (without a u ++ without b w)) := by
  unfold addD
  simp only
  rw [if_pos (by
    have h1 := List.length_filter_le (fun n => !(n == u)) a
    have h2 := List.length_filter_le (fun n => !(n == w)) b
    rw [List.length_map, List.length_map]
    unfold lim
    omega), ← List.map_append]
  rfl
theorem resolvent_spec {a b : List Int} {v : Int} (hl : a.length + b.length < 64) :
    ∃ fs, sem_resolvent [.sh (lits a), .sh (lits b), .sh (.int v)] = .ok (.sh (optD (res a b v))) fs := by
  suffices h : RetI (fun o _ => o = .sh (optD (res a b v))) (d_resolvent [some (.sh (lits a)), some (.sh (lits b)), some (.sh (.int v)), none, none, none, none]) by
    obtain ⟨_, ρ, e, rfl⟩ := h
    exact ⟨_, by rw [sem_resolvent, sem_ret (n := 3) rfl e]⟩
  unfold d_resolvent lits
  have rest : ∀ (u w : Int), (v ∈ a ∧ -v ∈ b ∧ u = v ∧ w = -v) ∨ (¬ (v ∈ a ∧ -v ∈ b) ∧ (-v ∈ a ∧ v ∈ b) ∧ u = -v ∧ w = v) → res a b v = fin (without a u ++ without b w) := fun u w h => by
    rcases h with ⟨h1, h2, rfl, rfl⟩ | ⟨h1, h2, rfl, rfl⟩
    · exact if_pos ⟨h1, h2⟩
    · exact (if_neg h1).trans (if_pos h2)
  refine w_seqRI (fun ρ => ∃ u w, ρ = [some (.sh (.tup (a.map D.int))), some (.sh (.tup (b.map D.int))), some (.sh (.int v)), some (.sh (.int u)), some (.sh (.int w)), none, none] ∧ res a b v = fin (without a u ++ without b w)) ?_ ?_
  · by_cases h1 : v ∈ a ∧ -v ∈ b
    · refine .inr (w_ifT (ρ' := [some (.sh (.tup (a.map D.int))), some (.sh (.tup (b.map D.int))), some (.sh (.int v)), none, none, none, none]) ?_ (nextI ⟨v, -v, rfl, rest _ _ (.inl ⟨h1.1, h1.2, rfl, rfl⟩)⟩))
      simp only [mAndT, mOrT, mBl, mOpS, mOpN, mBind, mMap, mPure, mSubN, mSub, asSh, mCall, f1, f2, mConsB, mNameB, mNameV, mNameM, lenD, DL.intD, liftB, liftI, toD_sh, toD_lst, List.getElem?_cons_zero, List.getElem?_cons_succ, List.map_cons, List.map_nil, pen_cells, pen_at, pen_digits, pen_count, pen_fold, put_at, put_digits, put_count, put_fold, List.set_cons_zero, List.set_cons_succ, sPut, sBind, sAsg, isSh, Bool.false_or, Bool.true_or, if_true, if_false, Bool.false_eq_true, reduceIte, addD, subI, mCallF, mHas, mConsO, DL.fill, putBack, slotSh_s, slotSh_sh, slotSh_ct, List.tail_cons, List.head?_cons, Option.join_some, mNeg, inT_ints, h1.1, h1.2, decide_true]
    · by_cases h2 : -v ∈ a ∧ v ∈ b
      · refine .inr (w_ifF (ρ' := [some (.sh (.tup (a.map D.int))), some (.sh (.tup (b.map D.int))), some (.sh (.int v)), none, none, none, none]) ?_ (w_ifT (ρ' := [some (.sh (.tup (a.map D.int))), some (.sh (.tup (b.map D.int))), some (.sh (.int v)), none, none, none, none]) ?_ (nextI ⟨-v, v, rfl, rest _ _ (.inr ⟨h1, h2, rfl, rfl⟩)⟩)))
        · simp only [mAndT, mOrT, mBl, mOpS, mOpN, mBind, mMap, mPure, mSubN, mSub, asSh, mCall, f1, f2, mConsB, mNameB, mNameV, mNameM, lenD, DL.intD, liftB, liftI, toD_sh, toD_lst, List.getElem?_cons_zero, List.getElem?_cons_succ, List.map_cons, List.map_nil, pen_cells, pen_at, pen_digits, pen_count, pen_fold, put_at, put_digits, put_count, put_fold, List.set_cons_zero, List.set_cons_succ, sPut, sBind, sAsg, isSh, Bool.false_or, Bool.true_or, if_true, if_false, Bool.false_eq_true, reduceIte, addD, subI, mCallF, mHas, mConsO, DL.fill, putBack, slotSh_s, slotSh_sh, slotSh_ct, List.tail_cons, List.head?_cons, Option.join_some, mNeg, inT_ints]
          by_cases h3 : v ∈ a
          · have h4 : ¬ -v ∈ b := fun z => h1 ⟨h3, z⟩
            simp only [mAndT, mOrT, mBl, mOpS, mOpN, mBind, mMap, mPure, mSubN, mSub, asSh, mCall, f1, f2, mConsB, mNameB, mNameV, mNameM, lenD, DL.intD, liftB, liftI, toD_sh, toD_lst, List.getElem?_cons_zero, List.getElem?_cons_succ, List.map_cons, List.map_nil, pen_cells, pen_at, pen_digits, pen_count, pen_fold, put_at, put_digits, put_count, put_fold, List.set_cons_zero, List.set_cons_succ, sPut, sBind, sAsg, isSh, Bool.false_or, Bool.true_or, if_true, if_false, Bool.false_eq_true, reduceIte, addD, subI, mCallF, mHas, mConsO, DL.fill, putBack, slotSh_s, slotSh_sh, slotSh_ct, List.tail_cons, List.head?_cons, Option.join_some, mNeg, inT_ints, h3, h4, decide_true, decide_false]
          · simp only [mAndT, mOrT, mBl, mOpS, mOpN, mBind, mMap, mPure, mSubN, mSub, asSh, mCall, f1, f2, mConsB, mNameB, mNameV, mNameM, lenD, DL.intD, liftB, liftI, toD_sh, toD_lst, List.getElem?_cons_zero, List.getElem?_cons_succ, List.map_cons, List.map_nil, pen_cells, pen_at, pen_digits, pen_count, pen_fold, put_at, put_digits, put_count, put_fold, List.set_cons_zero, List.set_cons_succ, sPut, sBind, sAsg, isSh, Bool.false_or, Bool.true_or, if_true, if_false, Bool.false_eq_true, reduceIte, addD, subI, mCallF, mHas, mConsO, DL.fill, putBack, slotSh_s, slotSh_sh, slotSh_ct, List.tail_cons, List.head?_cons, Option.join_some, mNeg, inT_ints, h3, decide_false]
        · simp only [mAndT, mOrT, mBl, mOpS, mOpN, mBind, mMap, mPure, mSubN, mSub, asSh, mCall, f1, f2, mConsB, mNameB, mNameV, mNameM, lenD, DL.intD, liftB, liftI, toD_sh, toD_lst, List.getElem?_cons_zero, List.getElem?_cons_succ, List.map_cons, List.map_nil, pen_cells, pen_at, pen_digits, pen_count, pen_fold, put_at, put_digits, put_count, put_fold, List.set_cons_zero, List.set_cons_succ, sPut, sBind, sAsg, isSh, Bool.false_or, Bool.true_or, if_true, if_false, Bool.false_eq_true, reduceIte, addD, subI, mCallF, mHas, mConsO, DL.fill, putBack, slotSh_s, slotSh_sh, slotSh_ct, List.tail_cons, List.head?_cons, Option.join_some, mNeg, inT_ints, h2.1, h2.2, decide_true]
      · refine .inl (w_ifF (ρ' := [some (.sh (.tup (a.map D.int))), some (.sh (.tup (b.map D.int))), some (.sh (.int v)), none, none, none, none]) ?_ (w_ifF (ρ' := [some (.sh (.tup (a.map D.int))), some (.sh (.tup (b.map D.int))), some (.sh (.int v)), none, none, none, none]) ?_ (w_ret rfl ?_)))
        · simp only [mAndT, mOrT, mBl, mOpS, mOpN, mBind, mMap, mPure, mSubN, mSub, asSh, mCall, f1, f2, mConsB, mNameB, mNameV, mNameM, lenD, DL.intD, liftB, liftI, toD_sh, toD_lst, List.getElem?_cons_zero, List.getElem?_cons_succ, List.map_cons, List.map_nil, pen_cells, pen_at, pen_digits, pen_count, pen_fold, put_at, put_digits, put_count, put_fold, List.set_cons_zero, List.set_cons_succ, sPut, sBind, sAsg, isSh, Bool.false_or, Bool.true_or, if_true, if_false, Bool.false_eq_true, reduceIte, addD, subI, mCallF, mHas, mConsO, DL.fill, putBack, slotSh_s, slotSh_sh, slotSh_ct, List.tail_cons, List.head?_cons, Option.join_some, mNeg, inT_ints]
          by_cases h3 : v ∈ a
          · have h4 : ¬ -v ∈ b := fun z => h1 ⟨h3, z⟩
            simp only [mAndT, mOrT, mBl, mOpS, mOpN, mBind, mMap, mPure, mSubN, mSub, asSh, mCall, f1, f2, mConsB, mNameB, mNameV, mNameM, lenD, DL.intD, liftB, liftI, toD_sh, toD_lst, List.getElem?_cons_zero, List.getElem?_cons_succ, List.map_cons, List.map_nil, pen_cells, pen_at, pen_digits, pen_count, pen_fold, put_at, put_digits, put_count, put_fold, List.set_cons_zero, List.set_cons_succ, sPut, sBind, sAsg, isSh, Bool.false_or, Bool.true_or, if_true, if_false, Bool.false_eq_true, reduceIte, addD, subI, mCallF, mHas, mConsO, DL.fill, putBack, slotSh_s, slotSh_sh, slotSh_ct, List.tail_cons, List.head?_cons, Option.join_some, mNeg, inT_ints, h3, h4, decide_true, decide_false]
          · simp only [mAndT, mOrT, mBl, mOpS, mOpN, mBind, mMap, mPure, mSubN, mSub, asSh, mCall, f1, f2, mConsB, mNameB, mNameV, mNameM, lenD, DL.intD, liftB, liftI, toD_sh, toD_lst, List.getElem?_cons_zero, List.getElem?_cons_succ, List.map_cons, List.map_nil, pen_cells, pen_at, pen_digits, pen_count, pen_fold, put_at, put_digits, put_count, put_fold, List.set_cons_zero, List.set_cons_succ, sPut, sBind, sAsg, isSh, Bool.false_or, Bool.true_or, if_true, if_false, Bool.false_eq_true, reduceIte, addD, subI, mCallF, mHas, mConsO, DL.fill, putBack, slotSh_s, slotSh_sh, slotSh_ct, List.tail_cons, List.head?_cons, Option.join_some, mNeg, inT_ints, h3, decide_false]
        · simp only [mAndT, mOrT, mBl, mOpS, mOpN, mBind, mMap, mPure, mSubN, mSub, asSh, mCall, f1, f2, mConsB, mNameB, mNameV, mNameM, lenD, DL.intD, liftB, liftI, toD_sh, toD_lst, List.getElem?_cons_zero, List.getElem?_cons_succ, List.map_cons, List.map_nil, pen_cells, pen_at, pen_digits, pen_count, pen_fold, put_at, put_digits, put_count, put_fold, List.set_cons_zero, List.set_cons_succ, sPut, sBind, sAsg, isSh, Bool.false_or, Bool.true_or, if_true, if_false, Bool.false_eq_true, reduceIte, addD, subI, mCallF, mHas, mConsO, DL.fill, putBack, slotSh_s, slotSh_sh, slotSh_ct, List.tail_cons, List.head?_cons, Option.join_some, mNeg, inT_ints]
          by_cases h3 : -v ∈ a
          · have h4 : ¬ v ∈ b := fun z => h2 ⟨h3, z⟩
            simp only [mAndT, mOrT, mBl, mOpS, mOpN, mBind, mMap, mPure, mSubN, mSub, asSh, mCall, f1, f2, mConsB, mNameB, mNameV, mNameM, lenD, DL.intD, liftB, liftI, toD_sh, toD_lst, List.getElem?_cons_zero, List.getElem?_cons_succ, List.map_cons, List.map_nil, pen_cells, pen_at, pen_digits, pen_count, pen_fold, put_at, put_digits, put_count, put_fold, List.set_cons_zero, List.set_cons_succ, sPut, sBind, sAsg, isSh, Bool.false_or, Bool.true_or, if_true, if_false, Bool.false_eq_true, reduceIte, addD, subI, mCallF, mHas, mConsO, DL.fill, putBack, slotSh_s, slotSh_sh, slotSh_ct, List.tail_cons, List.head?_cons, Option.join_some, mNeg, inT_ints, h3, h4, decide_true, decide_false]
          · simp only [mAndT, mOrT, mBl, mOpS, mOpN, mBind, mMap, mPure, mSubN, mSub, asSh, mCall, f1, f2, mConsB, mNameB, mNameV, mNameM, lenD, DL.intD, liftB, liftI, toD_sh, toD_lst, List.getElem?_cons_zero, List.getElem?_cons_succ, List.map_cons, List.map_nil, pen_cells, pen_at, pen_digits, pen_count, pen_fold, put_at, put_digits, put_count, put_fold, List.set_cons_zero, List.set_cons_succ, sPut, sBind, sAsg, isSh, Bool.false_or, Bool.true_or, if_true, if_false, Bool.false_eq_true, reduceIte, addD, subI, mCallF, mHas, mConsO, DL.fill, putBack, slotSh_s, slotSh_sh, slotSh_ct, List.tail_cons, List.head?_cons, Option.join_some, mNeg, inT_ints, h3, decide_false]
        · have e : res a b v = none := (if_neg h1).trans (if_neg h2)
          rw [e]
          rfl
  · rintro _ ⟨u, w, rfl, e⟩
    rw [e]
    have lc1 := m_lcR (vs := [6]) (src := mBind (mNameV 0) seqD) (bn := bName 6) (t := mBl (mOpN 6 neO (mNameB 3))) (e := mNameV 6) (ρ := [some (.sh (.tup (a.map D.int))), some (.sh (.tup (b.map D.int))), some (.sh (.int v)), some (.sh (.int u)), some (.sh (.int w)), none, none]) (ρ' := [some (.sh (.tup (a.map D.int))), some (.sh (.tup (b.map D.int))), some (.sh (.int v)), some (.sh (.int u)), some (.sh (.int w)), none, none]) (xs := a) D.int (fun n => !(n == u)) D.int rfl rfl (by unfold lim; omega) fun x _ => ⟨_, _, rfl, rfl, rfl, fun _ => ⟨_, rfl, rfl⟩⟩
    have lc2 := m_lcR (vs := [6]) (src := mBind (mNameV 1) seqD) (bn := bName 6) (t := mBl (mOpN 6 neO (mNameB 4))) (e := mNameV 6) (ρ := [some (.sh (.tup (a.map D.int))), some (.sh (.tup (b.map D.int))), some (.sh (.int v)), some (.sh (.int u)), some (.sh (.int w)), none, none]) (ρ' := [some (.sh (.tup (a.map D.int))), some (.sh (.tup (b.map D.int))), some (.sh (.int v)), some (.sh (.int u)), some (.sh (.int w)), none, none]) (xs := b) D.int (fun n => !(n == w)) D.int rfl rfl (by unfold lim; omega) fun x _ => ⟨_, _, rfl, rfl, rfl, fun _ => ⟨_, rfl, rfl⟩⟩
    have fl : (without a u ++ without b w).length < 64 := by
      have h1 := without_len (c := a) (v := u)
      have h2 := without_len (c := b) (v := w)
      rw [List.length_append]
      omega
    generalize hf : without a u ++ without b w = f at *
    refine w_seq (ρ' := [some (.sh (.tup (a.map D.int))), some (.sh (.tup (b.map D.int))), some (.sh (.int v)), some (.sh (.int u)), some (.sh (.int w)), some (intsL f), none]) ?_ ?_
    · have two := two_without (a := a) (b := b) (u := u) (w := w) hl
      rw [hf] at two
      simp only [mAndT, mOrT, mBl, mOpS, mOpN, mBind, mMap, mPure, mSubN, mSub, asSh, mCall, f1, f2, mConsB, mNameB, mNameV, mNameM, lenD, DL.intD, liftB, liftI, toD_sh, toD_lst, List.getElem?_cons_zero, List.getElem?_cons_succ, List.map_cons, List.map_nil, pen_cells, pen_at, pen_digits, pen_count, pen_fold, put_at, put_digits, put_count, put_fold, List.set_cons_zero, List.set_cons_succ, sPut, sBind, sAsg, isSh, Bool.false_or, Bool.true_or, if_true, if_false, Bool.false_eq_true, reduceIte, subI, mCallF, mHas, mConsO, DL.fill, putBack, slotSh_s, slotSh_sh, slotSh_ct, List.tail_cons, List.head?_cons, Option.join_some, ↓lc1, ↓lc2, two]
    · have lc3 := m_lcA (vs := [6]) (src := mBind (mNameV 5) seqD) (bn := bName 6) (e := mMap O.toD (mOpS (inO false) (mMap O.sh (mNeg (mNameV 6))) (mNameB 5)))
        (ρ := [some (.sh (.tup (a.map D.int))), some (.sh (.tup (b.map D.int))), some (.sh (.int v)), some (.sh (.int u)), some (.sh (.int w)), some (intsL f), none]) (ρ' := [some (.sh (.tup (a.map D.int))), some (.sh (.tup (b.map D.int))), some (.sh (.int v)), some (.sh (.int u)), some (.sh (.int w)), some (.sh (.lst (f.map D.int))), none]) (xs := f) D.int (fun n => .bl (decide (-n ∈ f))) rfl rfl (by unfold lim; omega) fun x _ => ⟨[some (.sh (.tup (a.map D.int))), some (.sh (.tup (b.map D.int))), some (.sh (.int v)), some (.sh (.int u)), some (.sh (.int w)), some (.sh (.lst (f.map D.int))), some (.sh (.int x))], rfl, [some (.sh (.tup (a.map D.int))), some (.sh (.tup (b.map D.int))), some (.sh (.int v)), some (.sh (.int u)), some (.sh (.int w)), some (.sh (.lst (f.map D.int))), some (.sh (.int x))], by
          simp only [mAndT, mOrT, mBl, mOpS, mOpN, mBind, mMap, mPure, mSubN, mSub, asSh, mCall, f1, f2, mConsB, mNameB, mNameV, mNameM, lenD, DL.intD, liftB, liftI, toD_sh, toD_lst, List.getElem?_cons_zero, List.getElem?_cons_succ, List.map_cons, List.map_nil, pen_cells, pen_at, pen_digits, pen_count, pen_fold, put_at, put_digits, put_count, put_fold, List.set_cons_zero, List.set_cons_succ, sPut, sBind, sAsg, isSh, Bool.false_or, Bool.true_or, if_true, if_false, Bool.false_eq_true, reduceIte, addD, subI, mCallF, mHas, mConsO, DL.fill, putBack, slotSh_s, slotSh_sh, slotSh_ct, List.tail_cons, List.head?_cons, Option.join_some, mNeg, inL_ints], rfl, rfl⟩
      have ha : anyD (.lst (f.map fun n => D.bl (decide (-n ∈ f)))) = some (.sh (.bl (f.any fun n => decide (-n ∈ f)))) := by
        unfold anyD
        simp only [neg_any]
        rw [List.any_map]
        rfl
      refine w_seqRI (fun ρ => (f.any fun n => decide (-n ∈ f)) = false ∧ ρ = [some (.sh (.tup (a.map D.int))), some (.sh (.tup (b.map D.int))), some (.sh (.int v)), some (.sh (.int u)), some (.sh (.int w)), some (.sh (.lst (f.map D.int))), none]) ?_ ?_
      · cases hq : f.any fun n => decide (-n ∈ f) with
        | true =>
          refine .inl (w_ifT (ρ' := [some (.sh (.tup (a.map D.int))), some (.sh (.tup (b.map D.int))), some (.sh (.int v)), some (.sh (.int u)), some (.sh (.int w)), some (.sh (.lst (f.map D.int))), none]) ?_ (w_ret rfl (by unfold fin; rw [if_pos hq]; rfl)))
          simp only [mAndT, mOrT, mBl, mOpS, mOpN, mBind, mMap, mPure, mSubN, mSub, asSh, mCall, f1, f2, mConsB, mNameB, mNameV, mNameM, lenD, DL.intD, liftB, liftI, toD_sh, toD_lst, List.getElem?_cons_zero, List.getElem?_cons_succ, List.map_cons, List.map_nil, pen_cells, pen_at, pen_digits, pen_count, pen_fold, put_at, put_digits, put_count, put_fold, List.set_cons_zero, List.set_cons_succ, sPut, sBind, sAsg, isSh, Bool.false_or, Bool.true_or, if_true, if_false, Bool.false_eq_true, reduceIte, subI, mCallF, mHas, mConsO, DL.fill, putBack, slotSh_s, slotSh_sh, slotSh_ct, List.tail_cons, List.head?_cons, Option.join_some, mTru, ↓lc3, ha, hq, truD]
        | false =>
          refine .inr (w_ifF (ρ' := [some (.sh (.tup (a.map D.int))), some (.sh (.tup (b.map D.int))), some (.sh (.int v)), some (.sh (.int u)), some (.sh (.int w)), some (.sh (.lst (f.map D.int))), none]) ?_ (nextI ⟨rfl, rfl⟩))
          simp only [mAndT, mOrT, mBl, mOpS, mOpN, mBind, mMap, mPure, mSubN, mSub, asSh, mCall, f1, f2, mConsB, mNameB, mNameV, mNameM, lenD, DL.intD, liftB, liftI, toD_sh, toD_lst, List.getElem?_cons_zero, List.getElem?_cons_succ, List.map_cons, List.map_nil, pen_cells, pen_at, pen_digits, pen_count, pen_fold, put_at, put_digits, put_count, put_fold, List.set_cons_zero, List.set_cons_succ, sPut, sBind, sAsg, isSh, Bool.false_or, Bool.true_or, if_true, if_false, Bool.false_eq_true, reduceIte, subI, mCallF, mHas, mConsO, DL.fill, putBack, slotSh_s, slotSh_sh, slotSh_ct, List.tail_cons, List.head?_cons, Option.join_some, mTru, ↓lc3, ha, hq, truD]
      · rintro _ ⟨hq, rfl⟩
        refine w_ret (r := .sh (lits (sortA (sortU f)))) (ρ' := [some (.sh (.tup (a.map D.int))), some (.sh (.tup (b.map D.int))), some (.sh (.int v)), some (.sh (.int u)), some (.sh (.int w)), some (.sh (.lst (f.map D.int))), none]) ?_ (by unfold fin; rw [hq]; rfl)
        have e1 := sortSetO_of (f := f) fl
        have e2 : sortAbsO (intsL (sortU f)).toD = _ := sortAbsO_of fl hq
        have e3 : tupleD (intsL (sortA (sortU f))).toD = some (.sh (lits (sortA (sortU f)))) := rfl
        simp only [mAndT, mOrT, mBl, mOpS, mOpN, mBind, mMap, mPure, mSubN, mSub, asSh, mCall, f1, f2, mConsB, mNameB, mNameV, mNameM, lenD, DL.intD, liftB, liftI, toD_sh, toD_lst, List.getElem?_cons_zero, List.getElem?_cons_succ, List.map_cons, List.map_nil, pen_cells, pen_at, pen_digits, pen_count, pen_fold, put_at, put_digits, put_count, put_fold, List.set_cons_zero, List.set_cons_succ, sPut, sBind, sAsg, isSh, Bool.false_or, Bool.true_or, if_true, if_false, Bool.false_eq_true, reduceIte, subI, mCallF, mHas, mConsO, DL.fill, putBack, slotSh_s, slotSh_sh, slotSh_ct, List.tail_cons, List.head?_cons, Option.join_some, mOp1, e1, e2, e3]
end K24

end

section
set_option Elab.async false
set_option linter.all false
set_option maxRecDepth 100000
namespace K24
open PySem L2 RZ DL PyProof.Rows
theorem sorted_spec {f : List Int} {o : O} (ho : o.toD = .lst (f.map D.int)) (fl : f.length < 64) (hq : (f.any fun n => decide (-n ∈ f)) = false) : sem__law_sorted [o] = .ok (.sh (lits (sortA (sortU f)))) [some o] := by
  have e1 := sortSetO_of (f := f) fl
  have e2 : sortAbsO (intsL (sortU f)).toD = _ := sortAbsO_of fl hq
  have e3 : tupleD (intsL (sortA (sortU f))).toD = some (.sh (lits (sortA (sortU f)))) := rfl
  have h : d__law_sorted [some o] = .ret (.sh (lits (sortA (sortU f)))) [some o] := by
    simp only [d__law_sorted, sRet, mAndT, mOrT, mBl, mOpS, mOpN, mBind, mMap, mPure, mSubN, mSub, asSh, mCall, f1, f2, mConsB, mNameB, mNameV, mNameM, lenD, DL.intD, liftB, liftI, toD_sh, toD_lst, List.getElem?_cons_zero, List.getElem?_cons_succ, List.map_cons, List.map_nil, pen_cells, pen_at, pen_digits, pen_count, pen_fold, put_at, put_digits, put_count, put_fold, List.set_cons_zero, List.set_cons_succ, sPut, sBind, sAsg, isSh, Bool.false_or, Bool.true_or, if_true, if_false, Bool.false_eq_true, reduceIte, subI, mCallF, mHas, mConsO, DL.fill, putBack, slotSh_s, slotSh_sh, slotSh_ct, List.tail_cons, List.head?_cons, Option.join_some, mOp1, ho, e1, e2, e3]
  rw [sem__law_sorted, sem_ret (n := 1) rfl h]
  rfl
theorem any_empty {f : List Int} : ((f.filter fun n => decide (-n ∈ f)).map fun _ => D.int 1).isEmpty = !(f.any fun n => decide (-n ∈ f)) := by
  have go : ∀ (c : Int → Bool) (l : List Int), ((l.filter c).map fun _ => D.int 1).isEmpty = !(l.any c) := fun c l => by
    induction l with
    | nil => rfl
    | cons x l ih =>
      rw [List.filter_cons, List.any_cons]
      cases c x with
      | true => rfl
      | false => rw [if_neg (by decide), ih, Bool.false_or]
  exact go _ f
theorem resolved_spec {a b : List Int} {v : Int} (hl : a.length + b.length < 64) :
    ∃ fs, sem__law_resolved [.sh (lits a), .sh (lits b), .sh (.int v)] = .ok (.sh (optD (res a b v))) fs := by
  suffices h : RetI (fun o _ => o = .sh (optD (res a b v))) (d__law_resolved [some (.sh (lits a)), some (.sh (lits b)), some (.sh (.int v)), none, none, none]) by
    obtain ⟨_, ρ, e, rfl⟩ := h
    exact ⟨_, by rw [sem__law_resolved, sem_ret (n := 3) rfl e]⟩
  unfold d__law_resolved lits
  generalize hbody : (sIf (mAndT _ _) _ sNext) = body
  have yes : ∀ x u, x ∈ a → -x ∈ b → RetI (fun o _ => o = .sh (optD (fin (without a x ++ without b (-x))))) (body [some (.sh (.tup (a.map D.int))), some (.sh (.tup (b.map D.int))), some (.sh (.int v)), some (.sh (.int x)), u, none]) := fun x u h1 h2 => by
    subst hbody
    refine w_ifT (ρ' := [some (.sh (.tup (a.map D.int))), some (.sh (.tup (b.map D.int))), some (.sh (.int v)), some (.sh (.int x)), u, none]) (by
      simp only [mAndT, mOrT, mBl, mOpS, mOpN, mBind, mMap, mPure, mSubN, mSub, asSh, mCall, f1, f2, mConsB, mNameB, mNameV, mNameM, lenD, DL.intD, liftB, liftI, toD_sh, toD_lst, List.getElem?_cons_zero, List.getElem?_cons_succ, List.map_cons, List.map_nil, pen_cells, pen_at, pen_digits, pen_count, pen_fold, put_at, put_digits, put_count, put_fold, List.set_cons_zero, List.set_cons_succ, sPut, sBind, sAsg, isSh, Bool.false_or, Bool.true_or, if_true, if_false, Bool.false_eq_true, reduceIte, addD, subI, mCallF, mHas, mConsO, DL.fill, putBack, slotSh_s, slotSh_sh, slotSh_ct, List.tail_cons, List.head?_cons, Option.join_some, mNeg, inT_ints, h1, h2, decide_true]) ?_
    have lc1 := m_lcR (vs := [5]) (src := mBind (mNameV 0) seqD) (bn := bName 5) (t := mBl (mOpN 5 neO (mNameB 3))) (e := mNameV 5) (ρ := [some (.sh (.tup (a.map D.int))), some (.sh (.tup (b.map D.int))), some (.sh (.int v)), some (.sh (.int x)), u, none]) (ρ' := [some (.sh (.tup (a.map D.int))), some (.sh (.tup (b.map D.int))), some (.sh (.int v)), some (.sh (.int x)), u, none]) (xs := a) D.int (fun n => !(n == x)) D.int rfl rfl (by unfold lim; omega) fun y _ => ⟨_, _, rfl, rfl, rfl, fun _ => ⟨_, rfl, rfl⟩⟩
    have lc2 := m_lcR (vs := [5]) (src := mBind (mNameV 1) seqD) (bn := bName 5) (t := mBl (mOpN 5 neO (mMap (fun d => ((none : Option Nat), O.sh d)) (mNeg (mNameV 3))))) (e := mNameV 5) (ρ := [some (.sh (.tup (a.map D.int))), some (.sh (.tup (b.map D.int))), some (.sh (.int v)), some (.sh (.int x)), u, none]) (ρ' := [some (.sh (.tup (a.map D.int))), some (.sh (.tup (b.map D.int))), some (.sh (.int v)), some (.sh (.int x)), u, none]) (xs := b) D.int (fun n => !(n == -x)) D.int rfl rfl (by unfold lim; omega) fun y _ => ⟨_, _, rfl, rfl, rfl, fun _ => ⟨_, rfl, rfl⟩⟩
    have fl : (without a x ++ without b (-x)).length < 64 := by
      have h1 := without_len (c := a) (v := x)
      have h2 := without_len (c := b) (v := -x)
      rw [List.length_append]
      omega
    have two := two_without (a := a) (b := b) (u := x) (w := -x) hl
    generalize without a x ++ without b (-x) = f at *
    refine w_seq (ρ' := [some (.sh (.tup (a.map D.int))), some (.sh (.tup (b.map D.int))), some (.sh (.int v)), some (.sh (.int x)), some (intsL f), none]) (by
      simp only [mAndT, mOrT, mBl, mOpS, mOpN, mBind, mMap, mPure, mSubN, mSub, asSh, mCall, f1, f2, mConsB, mNameB, mNameV, mNameM, lenD, DL.intD, liftB, liftI, toD_sh, toD_lst, List.getElem?_cons_zero, List.getElem?_cons_succ, List.map_cons, List.map_nil, pen_cells, pen_at, pen_digits, pen_count, pen_fold, put_at, put_digits, put_count, put_fold, List.set_cons_zero, List.set_cons_succ, sPut, sBind, sAsg, isSh, Bool.false_or, Bool.true_or, if_true, if_false, Bool.false_eq_true, reduceIte, subI, mCallF, mHas, mConsO, DL.fill, putBack, slotSh_s, slotSh_sh, slotSh_ct, List.tail_cons, List.head?_cons, Option.join_some, ↓lc1, ↓lc2, two]) ?_
    have lc3 := m_lcR (vs := [5]) (src := mBind (mNameV 4) seqD) (bn := bName 5) (t := mBl (mOpS (inO false) (mMap O.sh (mNeg (mNameV 5))) (mNameB 4))) (e := mPure (.int 1)) (ρ := [some (.sh (.tup (a.map D.int))), some (.sh (.tup (b.map D.int))), some (.sh (.int v)), some (.sh (.int x)), some (intsL f), none]) (ρ' := [some (.sh (.tup (a.map D.int))), some (.sh (.tup (b.map D.int))), some (.sh (.int v)), some (.sh (.int x)), some (.sh (.lst (f.map D.int))), none]) (xs := f) D.int (fun n => decide (-n ∈ f)) (fun _ => .int 1) rfl rfl (by unfold lim; omega) fun y _ => ⟨[some (.sh (.tup (a.map D.int))), some (.sh (.tup (b.map D.int))), some (.sh (.int v)), some (.sh (.int x)), some (.sh (.lst (f.map D.int))), some (.sh (.int y))], [some (.sh (.tup (a.map D.int))), some (.sh (.tup (b.map D.int))), some (.sh (.int v)), some (.sh (.int x)), some (.sh (.lst (f.map D.int))), some (.sh (.int y))], rfl, by
      simp only [mAndT, mOrT, mBl, mOpS, mOpN, mBind, mMap, mPure, mSubN, mSub, asSh, mCall, f1, f2, mConsB, mNameB, mNameV, mNameM, lenD, DL.intD, liftB, liftI, toD_sh, toD_lst, List.getElem?_cons_zero, List.getElem?_cons_succ, List.map_cons, List.map_nil, pen_cells, pen_at, pen_digits, pen_count, pen_fold, put_at, put_digits, put_count, put_fold, List.set_cons_zero, List.set_cons_succ, sPut, sBind, sAsg, isSh, Bool.false_or, Bool.true_or, if_true, if_false, Bool.false_eq_true, reduceIte, addD, subI, mCallF, mHas, mConsO, DL.fill, putBack, slotSh_s, slotSh_sh, slotSh_ct, List.tail_cons, List.head?_cons, Option.join_some, mNeg, inL_ints, Bool.false_eq_true, if_false], rfl, fun _ => ⟨_, rfl, rfl⟩⟩
    have ne : neO (.lst ((f.filter fun n => decide (-n ∈ f)).map fun _ => D.int 1)) (.lst []) = some (.sh (.bl (f.any fun n => decide (-n ∈ f)))) := by
      rw [neO_nilL (n := 1) (sh_lst fun d hd => by obtain ⟨_, _, rfl⟩ := List.mem_map.mp hd; exact sh_int) (by decide), any_empty, Bool.not_not]
    cases hq : f.any fun n => decide (-n ∈ f) with
    | true =>
      rw [hq] at ne
      refine w_ret (r := .sh .non) (ρ' := [some (.sh (.tup (a.map D.int))), some (.sh (.tup (b.map D.int))), some (.sh (.int v)), some (.sh (.int x)), some (.sh (.lst (f.map D.int))), none]) ?_ (by unfold fin; rw [if_pos hq]; rfl)
      simp only [mAndT, mOrT, mBl, mOpS, mOpN, mBind, mMap, mPure, mSubN, mSub, asSh, mCall, f1, f2, mConsB, mNameB, mNameV, mNameM, lenD, DL.intD, liftB, liftI, toD_sh, toD_lst, List.getElem?_cons_zero, List.getElem?_cons_succ, List.map_cons, List.map_nil, pen_cells, pen_at, pen_digits, pen_count, pen_fold, put_at, put_digits, put_count, put_fold, List.set_cons_zero, List.set_cons_succ, sPut, sBind, sAsg, isSh, Bool.false_or, Bool.true_or, if_true, if_false, Bool.false_eq_true, reduceIte, subI, mCallF, mHas, mConsO, DL.fill, putBack, slotSh_s, slotSh_sh, slotSh_ct, List.tail_cons, List.head?_cons, Option.join_some, mIf, mLst, ↓lc3, ne, List.length_nil, Nat.zero_le]
    | false =>
      rw [hq] at ne
      have ss := sorted_spec (f := f) (o := .sh (.lst (f.map D.int))) rfl fl hq
      refine w_ret (r := .sh (lits (sortA (sortU f)))) (ρ' := [some (.sh (.tup (a.map D.int))), some (.sh (.tup (b.map D.int))), some (.sh (.int v)), some (.sh (.int x)), some (.sh (.lst (f.map D.int))), none]) ?_ (by unfold fin; rw [hq]; rfl)
      simp only [mAndT, mOrT, mBl, mOpS, mOpN, mBind, mMap, mPure, mSubN, mSub, asSh, mCall, f1, f2, mConsB, mNameB, mNameV, mNameM, lenD, DL.intD, liftB, liftI, toD_sh, toD_lst, List.getElem?_cons_zero, List.getElem?_cons_succ, List.map_cons, List.map_nil, pen_cells, pen_at, pen_digits, pen_count, pen_fold, put_at, put_digits, put_count, put_fold, List.set_cons_zero, List.set_cons_succ, sPut, sBind, sAsg, isSh, Bool.false_or, Bool.true_or, if_true, if_false, Bool.false_eq_true, reduceIte, subI, mCallF, mHas, mConsO, DL.fill, putBack, slotSh_s, slotSh_sh, slotSh_ct, List.tail_cons, List.head?_cons, Option.join_some, mIf, mLst, ↓lc3, ne, List.length_nil, Nat.zero_le, ss]
  have no : ∀ x, ¬ (x ∈ a ∧ -x ∈ b) → body [some (.sh (.tup (a.map D.int))), some (.sh (.tup (b.map D.int))), some (.sh (.int v)), some (.sh (.int x)), none, none] = .next [some (.sh (.tup (a.map D.int))), some (.sh (.tup (b.map D.int))), some (.sh (.int v)), some (.sh (.int x)), none, none] := fun x h => by
    subst hbody
    refine w_ifF (P := fun o => o = .next _) (ρ' := [some (.sh (.tup (a.map D.int))), some (.sh (.tup (b.map D.int))), some (.sh (.int v)), some (.sh (.int x)), none, none]) ?_ rfl
    by_cases h3 : x ∈ a
    · have h4 : ¬ -x ∈ b := fun z => h ⟨h3, z⟩
      simp only [mAndT, mOrT, mBl, mOpS, mOpN, mBind, mMap, mPure, mSubN, mSub, asSh, mCall, f1, f2, mConsB, mNameB, mNameV, mNameM, lenD, DL.intD, liftB, liftI, toD_sh, toD_lst, List.getElem?_cons_zero, List.getElem?_cons_succ, List.map_cons, List.map_nil, pen_cells, pen_at, pen_digits, pen_count, pen_fold, put_at, put_digits, put_count, put_fold, List.set_cons_zero, List.set_cons_succ, sPut, sBind, sAsg, isSh, Bool.false_or, Bool.true_or, if_true, if_false, Bool.false_eq_true, reduceIte, addD, subI, mCallF, mHas, mConsO, DL.fill, putBack, slotSh_s, slotSh_sh, slotSh_ct, List.tail_cons, List.head?_cons, Option.join_some, mNeg, inT_ints, h3, h4, decide_true, decide_false]
    · simp only [mAndT, mOrT, mBl, mOpS, mOpN, mBind, mMap, mPure, mSubN, mSub, asSh, mCall, f1, f2, mConsB, mNameB, mNameV, mNameM, lenD, DL.intD, liftB, liftI, toD_sh, toD_lst, List.getElem?_cons_zero, List.getElem?_cons_succ, List.map_cons, List.map_nil, pen_cells, pen_at, pen_digits, pen_count, pen_fold, put_at, put_digits, put_count, put_fold, List.set_cons_zero, List.set_cons_succ, sPut, sBind, sAsg, isSh, Bool.false_or, Bool.true_or, if_true, if_false, Bool.false_eq_true, reduceIte, addD, subI, mCallF, mHas, mConsO, DL.fill, putBack, slotSh_s, slotSh_sh, slotSh_ct, List.tail_cons, List.head?_cons, Option.join_some, mNeg, inT_ints, h3, decide_false]
  have hs : ∀ {n : MS}, RetI (fun o _ => o = .sh (optD (res a b v))) ((fun o => match o with | .next ρ' => n ρ' | o => o) (forGo (bName 3) body [.int v, .int (-v)] [some (.sh (.tup (a.map D.int))), some (.sh (.tup (b.map D.int))), some (.sh (.int v)), none, none, none])) → RetI (fun o _ => o = .sh (optD (res a b v))) (sSeq (sFor (mBind (mMap O.toD (mLst (mCons (mNameV 2) (mCons (mNeg (mNameV 2)) (mPure []))))) seqD) (bName 3) body) n [some (.sh (.tup (a.map D.int))), some (.sh (.tup (b.map D.int))), some (.sh (.int v)), none, none, none]) := fun {n} h => by
    unfold sSeq sFor
    have src : (mBind (mMap O.toD (mLst (mCons (mNameV 2) (mCons (mNeg (mNameV 2)) (mPure []))))) seqD) [some (.sh (.tup (a.map D.int))), some (.sh (.tup (b.map D.int))), some (.sh (.int v)), none, none, none] = .ok [.int v, .int (-v)] [some (.sh (.tup (a.map D.int))), some (.sh (.tup (b.map D.int))), some (.sh (.int v)), none, none, none] := rfl
    rw [sBind_ok src]
    exact h
  refine hs ?_
  have f1 : ∀ (x : Int) (ds : List D) (y : Option O), forGo (bName 3) body (.int x :: ds) [some (.sh (.tup (a.map D.int))), some (.sh (.tup (b.map D.int))), some (.sh (.int v)), y, none, none] = match body [some (.sh (.tup (a.map D.int))), some (.sh (.tup (b.map D.int))), some (.sh (.int v)), some (.sh (.int x)), none, none] with
      | .next ρ2 => forGo (bName 3) body ds ρ2
      | .cont ρ2 => forGo (bName 3) body ds ρ2
      | .brk ρ2 => .next ρ2
      | .ret r ρ2 => .ret r ρ2
      | .exc e ρ2 => .exc e ρ2
      | .bad => .bad := fun x ds y => rfl
  by_cases h1 : v ∈ a ∧ -v ∈ b
  · obtain ⟨r, ρ, e, q⟩ := yes v none h1.1 h1.2
    have er : res a b v = fin (without a v ++ without b (-v)) := if_pos h1
    rw [f1, e, er]
    exact ⟨r, ρ, rfl, q⟩
  · rw [f1, no v h1]
    simp only
    by_cases h2 : -v ∈ a ∧ v ∈ b
    · obtain ⟨r, ρ, e, q⟩ := yes (-v) none h2.1 (by rw [Int.neg_neg]; exact h2.2)
      have er : res a b v = fin (without a (-v) ++ without b v) := (if_neg h1).trans (if_pos h2)
      rw [f1, e, er]
      rw [Int.neg_neg] at q
      exact ⟨r, ρ, rfl, q⟩
    · have er : res a b v = none := (if_neg h1).trans (if_neg h2)
      rw [f1, no (-v) (by rw [Int.neg_neg]; exact h2), er]
      exact ⟨_, _, rfl, rfl⟩
end K24

end

section
set_option Elab.async false
set_option linter.all false
set_option maxRecDepth 100000
namespace K24
open PySem L2 RZ DL PyProof.Rows
inductive Ln where
  | given (i : Nat) | chain (i : Nat) (steps : List (Nat × Nat))
def stepD (p : Nat × Nat) : D := .tup [.int (p.1 : Int), .int (p.2 : Int)]
def Ln.d : Ln → D
  | .given i => .tup [.str "given", .int (i : Int)]
  | .chain i st => .tup [.str "chain", .int (i : Int), .tup (st.map stepD)]
def chainGo (ahead : List (List Int)) : List Int → List (Nat × Nat) → Option (List Int)
  | c, [] => some c
  | c, (v, k) :: r => match ahead[k]? with
    | some d => match res c d (v : Int) with
      | some e => chainGo ahead e r
      | none => none
    | none => none
def lineC (row ahead : List (List Int)) : Ln → Option (List Int)
  | .given i => row[i]?
  | .chain i st => match ahead[i]? with
    | some c => chainGo ahead c st
    | none => none
def linesC (row : List (List Int)) : List Ln → List (List Int) → Option (List (List Int))
  | [], acc => some acc
  | l :: ls, acc => match lineC row acc l with
    | some c => linesC row ls (acc ++ [c])
    | none => none
/-- a line as the law draws it -/
def Ln.ok : Ln → Prop
  | .given _ => True
  | .chain _ st => st ≠ [] ∧ ∀ p ∈ st, 1 ≤ p.1
/-- a clause as the law draws it: sorted, each variable once -/
structure Cl (m : Nat) (c : List Int) : Prop where
  pw : c.Pairwise fun i j => absZ i < absZ j
  rg : ∀ l ∈ c, 1 ≤ absZ l ∧ absZ l ≤ m
theorem pw_len (m : Nat) : ∀ (c : List Int) (lo : Int), c.Pairwise (fun i j => absZ i < absZ j) → (∀ l ∈ c, lo < absZ l ∧ absZ l ≤ m) → lo ≤ m → (c.length : Int) ≤ m - lo
  | [], lo, _, _, h => by simp; omega
  | x :: c, lo, pw, rg, h => by
    rw [List.pairwise_cons] at pw
    have hx := rg x (by simp)
    have := pw_len m c (absZ x) pw.2 (fun l hl => ⟨pw.1 l hl, (rg l (List.mem_cons_of_mem _ hl)).2⟩) hx.2
    simp only [List.length_cons]
    omega
theorem Cl.len {m : Nat} {c : List Int} (h : Cl m c) : c.length ≤ m := by
  have := pw_len m c 0 h.pw (fun l hl => ⟨by have := (h.rg l hl).1; omega, (h.rg l hl).2⟩) (by omega)
  omega
theorem mem_sortA {k : Int} {xs : List Int} : k ∈ sortA xs ↔ k ∈ xs := (sortA_perm xs).mem_iff
theorem fin_cl {m : Nat} {f c : List Int} (h : fin f = some c) (hf : ∀ l ∈ f, 1 ≤ absZ l ∧ absZ l ≤ m) : Cl m c := by
  unfold fin at h
  split at h
  · cases h
  · rename_i hq
    cases h
    have hq : (f.any fun n => decide (-n ∈ f)) = false := by simpa using hq
    refine ⟨?_, fun l hl => hf l (by rw [mem_sortA, mem_sortU] at hl; exact hl)⟩
    have h1 := sortA_pw (sortU f)
    have h2 : (sortA (sortU f)).Pairwise (fun i j => absZ i ≠ absZ j) := by
      have := (((sortA_perm (sortU f)).map absZ).nodup_iff.mpr (abs_nd hq))
      rw [List.nodup_iff_pairwise_ne, List.pairwise_map] at this
      exact this
    exact (h1.and h2).imp fun {a b} ⟨q, r⟩ => by omega
theorem res_cl {m : Nat} {a b c : List Int} {v : Int} (h : res a b v = some c) (ha : Cl m a) (hb : Cl m b) : Cl m c := by
  have go : ∀ {u w : Int}, fin (without a u ++ without b w) = some c → Cl m c := fun {u w} h => fin_cl h fun l hl => by
    rcases List.mem_append.mp hl with hl | hl
    · exact ha.rg l (List.mem_filter.mp hl).1
    · exact hb.rg l (List.mem_filter.mp hl).1
  unfold res at h
  split at h
  · exact go h
  · split at h
    · exact go h
    · cases h
theorem count_spec {i : Int} : sem_is_count [.sh (.int i)] = .ok (.sh (.bl (decide (0 ≤ i)))) [some (.sh (.int i))] := by rfl
theorem whole_int {i : Int} : sem__law_is_whole [.sh (.int i)] = .ok (.sh (.bl true)) [some (.sh (.int i))] := by rfl
theorem index_spec {i n : Int} : sem__law_is_index [.sh (.int i), .sh (.int n)] = .ok (.sh (.bl (decide (0 ≤ i) && decide (i < n)))) [some (.sh (.int i)), some (.sh (.int n))] := by
  have h : d__law_is_index [some (.sh (.int i)), some (.sh (.int n))] = .ret (.sh (.bl (decide (0 ≤ i) && decide (i < n)))) [some (.sh (.int i)), some (.sh (.int n))] := by
    simp only [d__law_is_index, sRet, mAndT, mOrT, mBl, mOpS, mOpN, mBind, mMap, mPure, mSubN, mSub, asSh, mCall, f1, f2, mConsB, mNameB, mNameV, mNameM, lenD, DL.intD, liftB, liftI, toD_sh, toD_lst, List.getElem?_cons_zero, List.getElem?_cons_succ, List.map_cons, List.map_nil, pen_cells, pen_at, pen_digits, pen_count, pen_fold, put_at, put_digits, put_count, put_fold, List.set_cons_zero, List.set_cons_succ, sPut, sBind, sAsg, isSh, Bool.false_or, Bool.true_or, if_true, if_false, Bool.false_eq_true, reduceIte, addD, subI, mCallF, mHas, mConsO, DL.fill, putBack, slotSh_s, slotSh_sh, slotSh_ct, List.tail_cons, List.head?_cons, Option.join_some, mAndV, mChain, bO, whole_int]
    cases decide (0 ≤ i) <;> rfl
  rw [sem__law_is_index, sem_ret (n := 2) rfl h]
  rfl
/-- what stands ahead: a row of clauses, owned or not -/
inductive Row : O → List D → Prop
  | own (xs : List D) : Row (.lst xs) xs
  | lst (xs : List D) : Row (.sh (.lst xs)) xs
  | tup (xs : List D) : Row (.sh (.tup xs)) xs
theorem Row.item {o : O} {xs : List D} (h : Row o xs) {z : Option Nat} {k : Nat} {d : D} (e : xs[k]? = some d) : itemOf (z, o) (.int (k : Int)) = some (none, .sh d) := by
  cases h with
  | own => exact item_own (by omega) (by simpa using e)
  | lst => exact item_lst (by omega) (by simpa using e)
  | tup => exact item_tup (by omega) (by simpa using e)
theorem Row.len {o : O} {xs : List D} (h : Row o xs) : lenD o.toD = some (.sh (.int xs.length)) := by
  cases h <;> rfl
theorem fst_step {z : Option Nat} {p : Nat × Nat} : itemOf (z, .sh (stepD p)) (.int 0) = some (none, .sh (.int (p.1 : Int))) := rfl
theorem snd_step {z : Option Nat} {p : Nat × Nat} : itemOf (z, .sh (stepD p)) (.int 1) = some (none, .sh (.int (p.2 : Int))) := rfl
theorem chain_spec {ah : O} {ahead : List (List Int)} {i : Nat} {st : List (Nat × Nat)} {c : List Int} (ho : Row ah (ahead.map lits)) (hok : (Ln.chain i st).ok) (hc : ∀ d ∈ ahead, Cl 6 d) (h : lineC [] ahead (.chain i st) = some c) :
    sem_chain_clause [ah, .sh (Ln.chain i st).d] = .ok (.sh (lits c)) [some ah, some (.sh (Ln.chain i st).d)] := by
  obtain ⟨hne, hv⟩ := hok
  cases e0 : ahead[i]? with
  | none => simp only [lineC, e0] at h; cases h
  | some c0 =>
  simp only [lineC, e0] at h
  have hi : i < ahead.length := (List.getElem?_eq_some_iff.mp e0).1
  have it0 : (ahead.map lits)[i]? = some (lits c0) := by rw [List.getElem?_map, e0]; rfl
  have hc0 : Cl 6 c0 := hc c0 (List.mem_iff_getElem?.mpr ⟨i, e0⟩)
  generalize hL : (Ln.chain i st).d = L
  have i1 : ∀ {z}, itemOf (z, .sh L) (.int 1) = some (none, .sh (.int (i : Int))) := fun {z} => by subst hL; rfl
  have i2 : ∀ {z}, itemOf (z, .sh L) (.int 2) = some (none, .sh (.tup (st.map stepD))) := fun {z} => by subst hL; rfl
  have l1 : lenD L = some (.sh (.int 3)) := by subst hL; rfl
  suffices hs : RetI (fun o ρ => o = .sh (lits c) ∧ ∃ x y, ρ = [some ah, some (.sh L), x, y]) (d_chain_clause [some ah, some (.sh L), none, none]) by
    obtain ⟨_, _, e, rfl, x, y, rfl⟩ := hs
    rw [sem_chain_clause, sem_ret (n := 2) rfl e]
    rfl
  unfold d_chain_clause
  have n3 : neO (.int 3) (.int 3) = some (.sh (.bl false)) := rfl
  have ge : decide (((ahead.map lits).length : Int) ≤ (i : Int)) = false := decide_eq_false (by rw [List.length_map]; omega)
  have le : decide ((0 : Int) ≤ (i : Int)) = true := decide_eq_true (by omega)
  refine w_seq (ρ' := [some ah, some (.sh L), none, none]) (w_ifF (P := fun o => o = .next _) (ρ' := [some ah, some (.sh L), none, none]) (by
    simp only [mAndT, mOrT, mBl, mOpS, mOpN, mBind, mMap, mPure, mSubN, mSub, asSh, mCall, f1, f2, mConsB, mNameB, mNameV, mNameM, DL.intD, liftB, liftI, toD_sh, toD_lst, List.getElem?_cons_zero, List.getElem?_cons_succ, List.map_cons, List.map_nil, pen_cells, pen_at, pen_digits, pen_count, pen_fold, put_at, put_digits, put_count, put_fold, List.set_cons_zero, List.set_cons_succ, sPut, sBind, sAsg, isSh, Bool.false_or, Bool.true_or, if_true, if_false, Bool.false_eq_true, reduceIte, subI, mCallF, mHas, mConsO, DL.fill, putBack, slotSh_s, slotSh_sh, slotSh_ct, List.tail_cons, List.head?_cons, Option.join_some, l1, n3, i1, count_spec, mTru, truD, ho.len, le, ge, Bool.not_true, Bool.not_false]) rfl) ?_
  have ty : isiD ["tuple"] (.tup (st.map stepD)) = some true := rfl
  have lst : lenD (.tup (st.map stepD)) = some (.sh (.int (st.length : Int))) := by
    show some (O.sh (.int ((st.map stepD).length : Int))) = _
    rw [List.length_map]
  have nz : eqO (.int (st.length : Int)) (.int 0) = some (.sh (.bl false)) := by
    rw [DL.eq_int]
    have : ((st.length : Int) == 0) = false := beq_eq_false_iff_ne.mpr (by
      cases st with
      | nil => exact absurd rfl hne
      | cons _ _ => simp; omega)
    rw [this]
  refine w_seq (ρ' := [some ah, some (.sh L), none, none]) (w_ifF (P := fun o => o = .next _) (ρ' := [some ah, some (.sh L), none, none]) (by
    simp only [mAndT, mOrT, mBl, mOpS, mOpN, mBind, mMap, mPure, mSubN, mSub, asSh, mCall, f1, f2, mConsB, mNameB, mNameV, mNameM, DL.intD, liftB, liftI, toD_sh, toD_lst, List.getElem?_cons_zero, List.getElem?_cons_succ, List.map_cons, List.map_nil, pen_cells, pen_at, pen_digits, pen_count, pen_fold, put_at, put_digits, put_count, put_fold, List.set_cons_zero, List.set_cons_succ, sPut, sBind, sAsg, isSh, Bool.false_or, Bool.true_or, if_true, if_false, Bool.false_eq_true, reduceIte, subI, mCallF, mHas, mConsO, DL.fill, putBack, slotSh_s, slotSh_sh, slotSh_ct, List.tail_cons, List.head?_cons, Option.join_some, mIsi, i2, ty, mTru, truD, lst, nz, Bool.not_true]) rfl) ?_
  refine w_seq (ρ' := [some ah, some (.sh L), some (.sh (lits c0)), none]) (by
    simp only [mAndT, mOrT, mBl, mOpS, mOpN, mBind, mMap, mPure, mSubN, mSub, asSh, mCall, f1, f2, mConsB, mNameB, mNameV, mNameM, DL.intD, liftB, liftI, toD_sh, toD_lst, List.getElem?_cons_zero, List.getElem?_cons_succ, List.map_cons, List.map_nil, pen_cells, pen_at, pen_digits, pen_count, pen_fold, put_at, put_digits, put_count, put_fold, List.set_cons_zero, List.set_cons_succ, sPut, sBind, sAsg, isSh, Bool.false_or, Bool.true_or, if_true, if_false, Bool.false_eq_true, reduceIte, subI, mCallF, mHas, mConsO, DL.fill, putBack, slotSh_s, slotSh_sh, slotSh_ct, List.tail_cons, List.head?_cons, Option.join_some, i1, ho.item it0]) ?_
  -- the pairs
  refine w_seqI (fun ρ => ∃ y, ρ = [some ah, some (.sh L), some (.sh (lits c)), y]) ?_ ?_
  · refine w_for (P := NextI _) (fun k ρ => ∃ cc y, ρ = [some ah, some (.sh L), some (.sh (lits cc)), y] ∧ Cl 6 cc ∧ chainGo ahead cc (st.drop k) = some c) (ds := st.map stepD) (ρ' := [some ah, some (.sh L), some (.sh (lits c0)), none]) (by
        simp only [mAndT, mOrT, mBl, mOpS, mOpN, mBind, mMap, mPure, mSubN, mSub, asSh, mCall, f1, f2, mConsB, mNameB, mNameV, mNameM, DL.intD, liftB, liftI, toD_sh, toD_lst, List.getElem?_cons_zero, List.getElem?_cons_succ, List.map_cons, List.map_nil, pen_cells, pen_at, pen_digits, pen_count, pen_fold, put_at, put_digits, put_count, put_fold, List.set_cons_zero, List.set_cons_succ, sPut, sBind, sAsg, isSh, Bool.false_or, Bool.true_or, if_true, if_false, Bool.false_eq_true, reduceIte, subI, mCallF, mHas, mConsO, DL.fill, putBack, slotSh_s, slotSh_sh, slotSh_ct, List.tail_cons, List.head?_cons, Option.join_some, i2, seqD]) ⟨c0, none, rfl, hc0, by simpa using h⟩ ?_ ?_
    · rintro k d ρ hd ⟨cc, y, rfl, hcc, hgo⟩
      rw [List.getElem?_map] at hd
      cases hp : st[k]? with
      | none => rw [hp] at hd; cases hd
      | some p =>
      rw [hp] at hd
      cases hd
      have hmem : p ∈ st := List.mem_iff_getElem?.mpr ⟨k, hp⟩
      rw [drop_cons hp] at hgo
      obtain ⟨v, kk⟩ := p
      unfold chainGo at hgo
      cases ek : ahead[kk]? with
      | none => rw [ek] at hgo; cases hgo
      | some dd =>
      rw [ek] at hgo
      simp only at hgo
      cases er : res cc dd (v : Int) with
      | none => rw [er] at hgo; cases hgo
      | some ee =>
      rw [er] at hgo
      simp only at hgo
      have hdd : Cl 6 dd := hc dd (List.mem_iff_getElem?.mpr ⟨kk, ek⟩)
      have hv1 : 1 ≤ v := hv _ hmem
      have itk : (ahead.map lits)[kk]? = some (lits dd) := by rw [List.getElem?_map, ek]; rfl
      obtain ⟨fs, hr⟩ := resolvent_spec (a := cc) (b := dd) (v := (v : Int)) (by have := hcc.len; have := hdd.len; omega)
      rw [er] at hr
      have lkk : kk < ahead.length := (List.getElem?_eq_some_iff.mp ek).1
      refine ⟨[some ah, some (.sh L), some (.sh (lits cc)), some (.sh (stepD (v, kk)))], rfl, .inl ⟨[some ah, some (.sh L), some (.sh (lits ee)), some (.sh (stepD (v, kk)))], .inl ?_, ee, _, rfl, res_cl er hcc hdd, hgo⟩⟩
      have ty2 : isiD ["tuple"] (stepD (v, kk)) = some true := rfl
      have l2 : lenD (stepD (v, kk)) = some (.sh (.int 2)) := rfl
      have n2 : neO (.int 2) (.int 2) = some (.sh (.bl false)) := rfl
      have le1 : decide ((0 : Int) ≤ (v : Int)) = true := decide_eq_true (by omega)
      have le2 : decide ((0 : Int) ≤ (kk : Int)) = true := decide_eq_true (by omega)
      have ge2 : decide (((ahead.map lits).length : Int) ≤ (kk : Int)) = false := decide_eq_false (by rw [List.length_map]; omega)
      have nv : eqO (.int (v : Int)) (.int 0) = some (.sh (.bl false)) := by
        rw [DL.eq_int]
        have : ((v : Int) == 0) = false := beq_eq_false_iff_ne.mpr (by omega)
        rw [this]
      have nn : isO (lits ee) .non = some (.sh (.bl false)) := rfl
      refine w_seq (P := fun o => o = .next _) (ρ' := [some ah, some (.sh L), some (.sh (lits cc)), some (.sh (stepD (v, kk)))]) (w_ifF (P := fun o => o = .next _) (ρ' := [some ah, some (.sh L), some (.sh (lits cc)), some (.sh (stepD (v, kk)))]) (by
        simp only [mAndT, mOrT, mBl, mOpS, mOpN, mBind, mMap, mPure, mSubN, mSub, asSh, mCall, f1, f2, mConsB, mNameB, mNameV, mNameM, DL.intD, liftB, liftI, toD_sh, toD_lst, List.getElem?_cons_zero, List.getElem?_cons_succ, List.map_cons, List.map_nil, pen_cells, pen_at, pen_digits, pen_count, pen_fold, put_at, put_digits, put_count, put_fold, List.set_cons_zero, List.set_cons_succ, sPut, sBind, sAsg, isSh, Bool.false_or, Bool.true_or, if_true, if_false, Bool.false_eq_true, reduceIte, subI, mCallF, mHas, mConsO, DL.fill, putBack, slotSh_s, slotSh_sh, slotSh_ct, List.tail_cons, List.head?_cons, Option.join_some, mIsi, ty2, mTru, truD, l2, n2, fst_step, snd_step, count_spec, le1, le2, Bool.not_true]) rfl) ?_
      refine w_seq (P := fun o => o = .next _) (ρ' := [some ah, some (.sh L), some (.sh (lits cc)), some (.sh (stepD (v, kk)))]) (w_ifF (P := fun o => o = .next _) (ρ' := [some ah, some (.sh L), some (.sh (lits cc)), some (.sh (stepD (v, kk)))]) (by
        simp only [mAndT, mOrT, mBl, mOpS, mOpN, mBind, mMap, mPure, mSubN, mSub, asSh, mCall, f1, f2, mConsB, mNameB, mNameV, mNameM, DL.intD, liftB, liftI, toD_sh, toD_lst, List.getElem?_cons_zero, List.getElem?_cons_succ, List.map_cons, List.map_nil, pen_cells, pen_at, pen_digits, pen_count, pen_fold, put_at, put_digits, put_count, put_fold, List.set_cons_zero, List.set_cons_succ, sPut, sBind, sAsg, isSh, Bool.false_or, Bool.true_or, if_true, if_false, Bool.false_eq_true, reduceIte, subI, mCallF, mHas, mConsO, DL.fill, putBack, slotSh_s, slotSh_sh, slotSh_ct, List.tail_cons, List.head?_cons, Option.join_some, fst_step, snd_step, nv, ho.len, ge2]) rfl) ?_
      refine w_seq (P := fun o => o = .next _) (ρ' := [some ah, some (.sh L), some (.sh (lits ee)), some (.sh (stepD (v, kk)))]) (by
        simp only [mAndT, mOrT, mBl, mOpS, mOpN, mBind, mMap, mPure, mSubN, mSub, asSh, mCall, f1, f2, mConsB, mNameB, mNameV, mNameM, DL.intD, liftB, liftI, toD_sh, toD_lst, List.getElem?_cons_zero, List.getElem?_cons_succ, List.map_cons, List.map_nil, pen_cells, pen_at, pen_digits, pen_count, pen_fold, put_at, put_digits, put_count, put_fold, List.set_cons_zero, List.set_cons_succ, sPut, sBind, sAsg, isSh, Bool.false_or, Bool.true_or, if_true, if_false, Bool.false_eq_true, reduceIte, subI, mCallF, mHas, mConsO, DL.fill, putBack, slotSh_s, slotSh_sh, slotSh_ct, List.tail_cons, List.head?_cons, Option.join_some, fst_step, snd_step, ho.item itk, hr, optD]) ?_
      exact w_ifF (P := fun o => o = .next _) (ρ' := [some ah, some (.sh L), some (.sh (lits ee)), some (.sh (stepD (v, kk)))]) (by
        simp only [mAndT, mOrT, mBl, mOpS, mOpN, mBind, mMap, mPure, mSubN, mSub, asSh, mCall, f1, f2, mConsB, mNameB, mNameV, mNameM, DL.intD, liftB, liftI, toD_sh, toD_lst, List.getElem?_cons_zero, List.getElem?_cons_succ, List.map_cons, List.map_nil, pen_cells, pen_at, pen_digits, pen_count, pen_fold, put_at, put_digits, put_count, put_fold, List.set_cons_zero, List.set_cons_succ, sPut, sBind, sAsg, isSh, Bool.false_or, Bool.true_or, if_true, if_false, Bool.false_eq_true, reduceIte, subI, mCallF, mHas, mConsO, DL.fill, putBack, slotSh_s, slotSh_sh, slotSh_ct, List.tail_cons, List.head?_cons, Option.join_some, nn]) rfl
    · rintro ρ ⟨cc, y, rfl, hcc, hgo⟩
      rw [List.length_map, List.drop_length] at hgo
      cases hgo
      exact nextI ⟨y, rfl⟩
  · rintro _ ⟨y, rfl⟩
    exact w_ret (r := .sh (lits c)) (ρ' := [some ah, some (.sh L), none, y]) rfl ⟨rfl, none, y, rfl⟩
end K24

end

section
set_option Elab.async false
set_option linter.all false
set_option maxRecDepth 100000
namespace K24
open PySem L2 RZ DL PyProof.Rows
theorem eqD_nilT {ds : List D} {n : Nat} (h : Sh n (.tup ds)) (hn : n ≤ 64) : eqD (.tup ds) (.tup []) = some ds.isEmpty := by
  obtain ⟨p, q, h1, h2, h3⟩ := eqD_sh h (sh_tup (n := 0) (ds := []) (by simp) |>.mono (m := max n 1) (by omega) |>.mono (m := max n 1) (by omega) |> fun z => by
    obtain ⟨p, h1, h2, h3⟩ := h
    cases n with
    | zero =>
      exfalso
      cases e : toPys ds with
      | none => simp only [toPy, e] at h1; cases h1
      | some ps => simp only [toPy, e] at h1; cases h1; simp only [PyData.depth] at h3; omega
    | succ n => exact (sh_tup (n := 0) (ds := []) (by simp)).mono (by omega)) hn
  rw [h3]
  have e2 : q = .tuple [] := by
    have : toPy (.tup []) = some (.tuple []) := rfl
    rw [this] at h2
    cases h2
    rfl
  subst e2
  cases ds with
  | nil =>
    have : toPy (.tup []) = some (.tuple []) := rfl
    rw [this] at h1
    cases h1
    rfl
  | cons d ds =>
    cases e : toPys (d :: ds) with
    | none => simp only [toPy, e] at h1; cases h1
    | some ps =>
      simp only [toPy, e] at h1
      cases h1
      cases ps with
      | nil =>
        simp only [toPys] at e
        split at e <;> cases e
      | cons p ps => rfl
theorem eqO_nilT {ds : List D} {n : Nat} (h : Sh n (.tup ds)) (hn : n ≤ 64) : eqO (.tup ds) (.tup []) = some (.sh (.bl ds.isEmpty)) := by unfold eqO; rw [eqD_nilT h hn]
theorem eq_str {x y : Str} (hx : PyData.strOk x = true) (hy : PyData.strOk y = true) : eqO (.str x) (.str y) = some (.sh (.bl (x == y))) := by
  have h1 : SeqAt.shaped (.str x) = true := by unfold SeqAt.shaped; simp only [PyData.canLay0, hx, PyData.depth]; rfl
  have h2 : SeqAt.shaped (.str y) = true := by unfold SeqAt.shaped; simp only [PyData.canLay0, hy, PyData.depth]; rfl
  unfold eqO eqD
  simp only [toPy, h1, h2, PyData.eqv, Bool.and_self, if_true]
theorem okG : PyData.strOk "given" = true := by decide +kernel
theorem okC : PyData.strOk "chain" = true := by decide +kernel
theorem eq_gg : eqO (.str "given") (.str "given") = some (.sh (.bl true)) := by rw [eq_str okG okG, beq_self_eq_true]
theorem eq_cc : eqO (.str "chain") (.str "chain") = some (.sh (.bl true)) := by rw [eq_str okC okC, beq_self_eq_true]
theorem eq_cg : eqO (.str "chain") (.str "given") = some (.sh (.bl false)) := by
  rw [eq_str okC okG]
  have : (("chain" : Str) == ("given" : Str)) = false := by decide +kernel
  rw [this]
/-- a clause as a row tells it: a tuple, or a list -/
def cD (l : Bool) (c : List Int) : D := if l = true then .lst (c.map D.int) else .tup (c.map D.int)
theorem line_spec {l : Bool} {ro ah : O} {row ahead : List (List Int)} {L : Ln} {c : List Int} (hr : Row ro (row.map (cD l))) (ho : Row ah (ahead.map lits)) (hok : L.ok) (hc : ∀ d ∈ ahead, Cl 6 d) (h : lineC row ahead L = some c) :
    ∃ b, sem_line_clause [ro, ah, .sh L.d] = .ok (.sh (cD b c)) [some ro, some ah, some (.sh L.d)] := by
  cases L with
  | given i =>
    refine ⟨l, ?_⟩
    have hi : i < row.length := (List.getElem?_eq_some_iff.mp h).1
    have it : (row.map (cD l))[i]? = some (cD l c) := by rw [List.getElem?_map, show row[i]? = some c from h]; rfl
    have le : decide ((0 : Int) ≤ (i : Int)) = true := decide_eq_true (by omega)
    have lt : decide ((i : Int) < ((row.map (cD l)).length : Int)) = true := decide_eq_true (by rw [List.length_map]; omega)
    have hs : d_line_clause [some ro, some ah, some (.sh (Ln.given i).d)] = .ret (.sh (cD l c)) [some ro, some ah, some (.sh (Ln.given i).d)] := by
      unfold d_line_clause
      generalize hL : (Ln.given i).d = L
      have i0 : ∀ {z}, itemOf (z, .sh L) (.int 0) = some (none, .sh (.str "given")) := fun {z} => by subst hL; rfl
      have i1 : ∀ {z}, itemOf (z, .sh L) (.int 1) = some (none, .sh (.int (i : Int))) := fun {z} => by subst hL; rfl
      have l1 : lenD L = some (.sh (.int 2)) := by subst hL; rfl
      have ty : isiD ["tuple"] L = some true := by subst hL; rfl
      have e0 : eqO (.int 2) (.int 0) = some (.sh (.bl false)) := rfl
      have e1 : eqO (.int 2) (.int 2) = some (.sh (.bl true)) := rfl
      have e2 := eq_gg
      refine w_seq (P := fun o => o = .ret _ _) (ρ' := [some ro, some ah, some (.sh L)]) (w_ifF (P := fun o => o = .next _) (ρ' := [some ro, some ah, some (.sh L)]) (by
        simp only [mAndT, mOrT, mBl, mOpS, mOpN, mBind, mMap, mPure, mSubN, mSub, asSh, mCall, f1, f2, mConsB, mNameB, mNameV, mNameM, DL.intD, liftB, liftI, toD_sh, toD_lst, List.getElem?_cons_zero, List.getElem?_cons_succ, List.map_cons, List.map_nil, pen_cells, pen_at, pen_digits, pen_count, pen_fold, put_at, put_digits, put_count, put_fold, List.set_cons_zero, List.set_cons_succ, sPut, sBind, sAsg, isSh, Bool.false_or, Bool.true_or, if_true, if_false, Bool.false_eq_true, reduceIte, subI, mCallF, mHas, mConsO, DL.fill, putBack, slotSh_s, slotSh_sh, slotSh_ct, List.tail_cons, List.head?_cons, Option.join_some, mIsi, ty, mTru, truD, l1, e0, Bool.not_true]) rfl) ?_
      refine w_seqR (P := fun o => o = .ret _ _) (r := .sh (cD l c)) (ρ' := [some ro, some ah, some (.sh L)]) (w_ifT (P := fun o => o = .ret _ _) (ρ' := [some ro, some ah, some (.sh L)]) (by
        simp only [mAndT, mOrT, mBl, mOpS, mOpN, mBind, mMap, mPure, mSubN, mSub, asSh, mCall, f1, f2, mConsB, mNameB, mNameV, mNameM, DL.intD, liftB, liftI, toD_sh, toD_lst, List.getElem?_cons_zero, List.getElem?_cons_succ, List.map_cons, List.map_nil, pen_cells, pen_at, pen_digits, pen_count, pen_fold, put_at, put_digits, put_count, put_fold, List.set_cons_zero, List.set_cons_succ, sPut, sBind, sAsg, isSh, Bool.false_or, Bool.true_or, if_true, if_false, Bool.false_eq_true, reduceIte, subI, mCallF, mHas, mConsO, DL.fill, putBack, slotSh_s, slotSh_sh, slotSh_ct, List.tail_cons, List.head?_cons, Option.join_some, i0, e1, e2, l1]) ?_) rfl
      simp only [sRet, mAndT, mOrT, mBl, mOpS, mOpN, mBind, mMap, mPure, mSubN, mSub, asSh, mCall, f1, f2, mConsB, mNameB, mNameV, mNameM, DL.intD, liftB, liftI, toD_sh, toD_lst, List.getElem?_cons_zero, List.getElem?_cons_succ, List.map_cons, List.map_nil, pen_cells, pen_at, pen_digits, pen_count, pen_fold, put_at, put_digits, put_count, put_fold, List.set_cons_zero, List.set_cons_succ, sPut, sBind, sAsg, isSh, Bool.false_or, Bool.true_or, if_true, if_false, Bool.false_eq_true, reduceIte, subI, mCallF, mHas, mConsO, DL.fill, putBack, slotSh_s, slotSh_sh, slotSh_ct, List.tail_cons, List.head?_cons, Option.join_some, mIf, mTru, truD, i1, count_spec, le, lt, hr.len, hr.item it]
    rw [sem_line_clause, sem_ret (n := 3) rfl hs]
    rfl
  | chain i st =>
    refine ⟨false, ?_⟩
    have hch := chain_spec (i := i) (st := st) ho hok hc h
    have hs : d_line_clause [some ro, some ah, some (.sh (Ln.chain i st).d)] = .ret (.sh (cD false c)) [some ro, some ah, some (.sh (Ln.chain i st).d)] := by
      unfold d_line_clause
      generalize hL : (Ln.chain i st).d = L at *
      have i0 : ∀ {z}, itemOf (z, .sh L) (.int 0) = some (none, .sh (.str "chain")) := fun {z} => by subst hL; rfl
      have l1 : lenD L = some (.sh (.int 3)) := by subst hL; rfl
      have ty : isiD ["tuple"] L = some true := by subst hL; rfl
      have e0 : eqO (.int 3) (.int 0) = some (.sh (.bl false)) := rfl
      have e1 := eq_cg
      have e2 := eq_cc
      refine w_seq (P := fun o => o = .ret _ _) (ρ' := [some ro, some ah, some (.sh L)]) (w_ifF (P := fun o => o = .next _) (ρ' := [some ro, some ah, some (.sh L)]) (by
        simp only [mAndT, mOrT, mBl, mOpS, mOpN, mBind, mMap, mPure, mSubN, mSub, asSh, mCall, f1, f2, mConsB, mNameB, mNameV, mNameM, DL.intD, liftB, liftI, toD_sh, toD_lst, List.getElem?_cons_zero, List.getElem?_cons_succ, List.map_cons, List.map_nil, pen_cells, pen_at, pen_digits, pen_count, pen_fold, put_at, put_digits, put_count, put_fold, List.set_cons_zero, List.set_cons_succ, sPut, sBind, sAsg, isSh, Bool.false_or, Bool.true_or, if_true, if_false, Bool.false_eq_true, reduceIte, subI, mCallF, mHas, mConsO, DL.fill, putBack, slotSh_s, slotSh_sh, slotSh_ct, List.tail_cons, List.head?_cons, Option.join_some, mIsi, ty, mTru, truD, l1, e0, Bool.not_true]) rfl) ?_
      refine w_seq (P := fun o => o = .ret _ _) (ρ' := [some ro, some ah, some (.sh L)]) (w_ifF (P := fun o => o = .next _) (ρ' := [some ro, some ah, some (.sh L)]) (by
        simp only [mAndT, mOrT, mBl, mOpS, mOpN, mBind, mMap, mPure, mSubN, mSub, asSh, mCall, f1, f2, mConsB, mNameB, mNameV, mNameM, DL.intD, liftB, liftI, toD_sh, toD_lst, List.getElem?_cons_zero, List.getElem?_cons_succ, List.map_cons, List.map_nil, pen_cells, pen_at, pen_digits, pen_count, pen_fold, put_at, put_digits, put_count, put_fold, List.set_cons_zero, List.set_cons_succ, sPut, sBind, sAsg, isSh, Bool.false_or, Bool.true_or, if_true, if_false, Bool.false_eq_true, reduceIte, subI, mCallF, mHas, mConsO, DL.fill, putBack, slotSh_s, slotSh_sh, slotSh_ct, List.tail_cons, List.head?_cons, Option.join_some, i0, e1]) rfl) ?_
      cases ho with
      | own => simp only [sRet, mAndT, mOrT, mBl, mOpS, mOpN, mBind, mMap, mPure, mSubN, mSub, asSh, mCall, f1, f2, mConsB, mNameB, mNameV, mNameM, DL.intD, liftB, liftI, toD_sh, toD_lst, List.getElem?_cons_zero, List.getElem?_cons_succ, List.map_cons, List.map_nil, pen_cells, pen_at, pen_digits, pen_count, pen_fold, put_at, put_digits, put_count, put_fold, List.set_cons_zero, List.set_cons_succ, sPut, sBind, sAsg, isSh, Bool.false_or, Bool.true_or, if_true, if_false, Bool.false_eq_true, reduceIte, subI, mCallF, mHas, mConsO, DL.fill, putBack, slotSh_s, slotSh_sh, slotSh_ct, List.tail_cons, List.head?_cons, Option.join_some, mIf, i0, e2, hch]; rfl
      | lst => simp only [sRet, mAndT, mOrT, mBl, mOpS, mOpN, mBind, mMap, mPure, mSubN, mSub, asSh, mCall, f1, f2, mConsB, mNameB, mNameV, mNameM, DL.intD, liftB, liftI, toD_sh, toD_lst, List.getElem?_cons_zero, List.getElem?_cons_succ, List.map_cons, List.map_nil, pen_cells, pen_at, pen_digits, pen_count, pen_fold, put_at, put_digits, put_count, put_fold, List.set_cons_zero, List.set_cons_succ, sPut, sBind, sAsg, isSh, Bool.false_or, Bool.true_or, if_true, if_false, Bool.false_eq_true, reduceIte, subI, mCallF, mHas, mConsO, DL.fill, putBack, slotSh_s, slotSh_sh, slotSh_ct, List.tail_cons, List.head?_cons, Option.join_some, mIf, i0, e2, hch]; rfl
      | tup => simp only [sRet, mAndT, mOrT, mBl, mOpS, mOpN, mBind, mMap, mPure, mSubN, mSub, asSh, mCall, f1, f2, mConsB, mNameB, mNameV, mNameM, DL.intD, liftB, liftI, toD_sh, toD_lst, List.getElem?_cons_zero, List.getElem?_cons_succ, List.map_cons, List.map_nil, pen_cells, pen_at, pen_digits, pen_count, pen_fold, put_at, put_digits, put_count, put_fold, List.set_cons_zero, List.set_cons_succ, sPut, sBind, sAsg, isSh, Bool.false_or, Bool.true_or, if_true, if_false, Bool.false_eq_true, reduceIte, subI, mCallF, mHas, mConsO, DL.fill, putBack, slotSh_s, slotSh_sh, slotSh_ct, List.tail_cons, List.head?_cons, Option.join_some, mIf, i0, e2, hch]; rfl
    rw [sem_line_clause, sem_ret (n := 3) rfl hs]
    rfl
theorem lof_spec {ro ah : O} {row ahead : List (List Int)} {L : Ln} {c : List Int} (hr : Row ro (row.map lits)) (ho : Row ah (ahead.map lits)) (hok : L.ok) (hc : ∀ d ∈ ahead, Cl 6 d) (h : lineC row ahead L = some c) :
    sem__law_line_of [ro, ah, .sh L.d] = .ok (.sh (lits c)) [some ro, some ah, some (.sh L.d)] := by
  suffices hs : RetI (fun o ρ => o = .sh (lits c) ∧ ∃ x y, ρ = [some ro, some ah, some (.sh L.d), x, y]) (d__law_line_of [some ro, some ah, some (.sh L.d), none, none]) by
    obtain ⟨_, _, e, rfl, x, y, rfl⟩ := hs
    rw [sem__law_line_of, sem_ret (n := 3) rfl e]
    rfl
  unfold d__law_line_of
  cases L with
  | given i =>
    have hi : i < row.length := (List.getElem?_eq_some_iff.mp h).1
    have it : (row.map lits)[i]? = some (lits c) := by rw [List.getElem?_map, show row[i]? = some c from h]; rfl
    have le : decide ((0 : Int) ≤ (i : Int)) = true := decide_eq_true (by omega)
    have lt : decide ((i : Int) < ((row.map lits).length : Int)) = true := decide_eq_true (by rw [List.length_map]; omega)
    generalize hL : (Ln.given i).d = L
    have i0 : ∀ {z}, itemOf (z, .sh L) (.int 0) = some (none, .sh (.str "given")) := fun {z} => by subst hL; rfl
    have i1 : ∀ {z}, itemOf (z, .sh L) (.int 1) = some (none, .sh (.int (i : Int))) := fun {z} => by subst hL; rfl
    have l1 : lenD L = some (.sh (.int 2)) := by subst hL; rfl
    have ty : isiD ["tuple"] L = some true := by subst hL; rfl
    have e0 : eqO (.int 2) (.int 0) = some (.sh (.bl false)) := rfl
    have e1 : eqO (.int 2) (.int 2) = some (.sh (.bl true)) := rfl
    have e2 := eq_gg
    have ni : inO true (.str "given") (.lst [.str "given", .str "chain"]) = some (.sh (.bl false)) := by rfl
    have gt : decide ((1 : Int) < 2) = true := rfl
    have l2 : decide (1 + (1 + 0) ≤ lim) = true := rfl
    refine w_seq (ρ' := [some ro, some ah, some (.sh L), none, none]) (w_ifF (P := fun o => o = .next _) (ρ' := [some ro, some ah, some (.sh L), none, none]) (by
      simp only [mAndT, mOrT, mBl, mOpS, mOpN, mBind, mMap, mPure, mSubN, mSub, asSh, mCall, f1, f2, mConsB, mNameB, mNameV, mNameM, DL.intD, liftB, liftI, toD_sh, toD_lst, List.getElem?_cons_zero, List.getElem?_cons_succ, List.map_cons, List.map_nil, pen_cells, pen_at, pen_digits, pen_count, pen_fold, put_at, put_digits, put_count, put_fold, List.set_cons_zero, List.set_cons_succ, sPut, sBind, sAsg, isSh, Bool.false_or, Bool.true_or, if_true, if_false, Bool.false_eq_true, reduceIte, subI, mCallF, mHas, mConsO, DL.fill, putBack, slotSh_s, slotSh_sh, slotSh_ct, List.tail_cons, List.head?_cons, Option.join_some, mIsi, ty, mTru, truD, l1, e0, Bool.not_true, i0, mLst, mCons, List.length_cons, List.length_nil, ni, show (0 + 1 + 1 ≤ lim) = True from eq_true (by decide)]) rfl) ?_
    refine w_seq (ρ' := [some ro, some ah, some (.sh L), none, none]) (w_ifF (P := fun o => o = .next _) (ρ' := [some ro, some ah, some (.sh L), none, none]) (by
      simp only [mAndT, mOrT, mBl, mOpS, mOpN, mBind, mMap, mPure, mSubN, mSub, asSh, mCall, f1, f2, mConsB, mNameB, mNameV, mNameM, DL.intD, liftB, liftI, toD_sh, toD_lst, List.getElem?_cons_zero, List.getElem?_cons_succ, List.map_cons, List.map_nil, pen_cells, pen_at, pen_digits, pen_count, pen_fold, put_at, put_digits, put_count, put_fold, List.set_cons_zero, List.set_cons_succ, sPut, sBind, sAsg, isSh, Bool.false_or, Bool.true_or, if_true, if_false, Bool.false_eq_true, reduceIte, subI, mCallF, mHas, mConsO, DL.fill, putBack, slotSh_s, slotSh_sh, slotSh_ct, List.tail_cons, List.head?_cons, Option.join_some, mIf, mTru, truD, l1, gt, i0, i1, e2, hr.len, index_spec, le, lt, Bool.and_self, Bool.not_true]) rfl) ?_
    refine w_seqR (P := RetI _) (r := .sh (lits c)) (ρ' := [some ro, some ah, some (.sh L), none, none]) (w_ifT (P := fun o => o = .ret _ _) (ρ' := [some ro, some ah, some (.sh L), none, none]) (by
      simp only [mAndT, mOrT, mBl, mOpS, mOpN, mBind, mMap, mPure, mSubN, mSub, asSh, mCall, f1, f2, mConsB, mNameB, mNameV, mNameM, DL.intD, liftB, liftI, toD_sh, toD_lst, List.getElem?_cons_zero, List.getElem?_cons_succ, List.map_cons, List.map_nil, pen_cells, pen_at, pen_digits, pen_count, pen_fold, put_at, put_digits, put_count, put_fold, List.set_cons_zero, List.set_cons_succ, sPut, sBind, sAsg, isSh, Bool.false_or, Bool.true_or, if_true, if_false, Bool.false_eq_true, reduceIte, subI, mCallF, mHas, mConsO, DL.fill, putBack, slotSh_s, slotSh_sh, slotSh_ct, List.tail_cons, List.head?_cons, Option.join_some, i0, e2]) ?_) ⟨_, _, rfl, rfl, none, none, rfl⟩
    simp only [sRet, mAndT, mOrT, mBl, mOpS, mOpN, mBind, mMap, mPure, mSubN, mSub, asSh, mCall, f1, f2, mConsB, mNameB, mNameV, mNameM, DL.intD, liftB, liftI, toD_sh, toD_lst, List.getElem?_cons_zero, List.getElem?_cons_succ, List.map_cons, List.map_nil, pen_cells, pen_at, pen_digits, pen_count, pen_fold, put_at, put_digits, put_count, put_fold, List.set_cons_zero, List.set_cons_succ, sPut, sBind, sAsg, isSh, Bool.false_or, Bool.true_or, if_true, if_false, Bool.false_eq_true, reduceIte, subI, mCallF, mHas, mConsO, DL.fill, putBack, slotSh_s, slotSh_sh, slotSh_ct, List.tail_cons, List.head?_cons, Option.join_some, mIf, l1, e1, i1, hr.item it]
  | chain i st =>
    obtain ⟨hne, hv⟩ := hok
    cases e0 : ahead[i]? with
    | none => simp only [lineC, e0] at h; cases h
    | some c0 =>
    simp only [lineC, e0] at h
    have hi : i < ahead.length := (List.getElem?_eq_some_iff.mp e0).1
    have it0 : (ahead.map lits)[i]? = some (lits c0) := by rw [List.getElem?_map, e0]; rfl
    have hc0 : Cl 6 c0 := hc c0 (List.mem_iff_getElem?.mpr ⟨i, e0⟩)
    generalize hL : (Ln.chain i st).d = L
    have i0 : ∀ {z}, itemOf (z, .sh L) (.int 0) = some (none, .sh (.str "chain")) := fun {z} => by subst hL; rfl
    have i1 : ∀ {z}, itemOf (z, .sh L) (.int 1) = some (none, .sh (.int (i : Int))) := fun {z} => by subst hL; rfl
    have i2 : ∀ {z}, itemOf (z, .sh L) (.int 2) = some (none, .sh (.tup (st.map stepD))) := fun {z} => by subst hL; rfl
    have l1 : lenD L = some (.sh (.int 3)) := by subst hL; rfl
    have ty : isiD ["tuple"] L = some true := by subst hL; rfl
    have e1 : eqO (.int 3) (.int 0) = some (.sh (.bl false)) := rfl
    have e2 := eq_cg
    have n3 : neO (.int 3) (.int 3) = some (.sh (.bl false)) := rfl
    have ni : inO true (.str "chain") (.lst [.str "given", .str "chain"]) = some (.sh (.bl false)) := by rfl
    have gt : decide ((1 : Int) < 3) = true := rfl
    have le : decide ((0 : Int) ≤ (i : Int)) = true := decide_eq_true (by omega)
    have lt : decide ((i : Int) < ((ahead.map lits).length : Int)) = true := decide_eq_true (by rw [List.length_map]; omega)
    have ty2 : isiD ["tuple"] (.tup (st.map stepD)) = some true := rfl
    have nt : eqO (.tup (st.map stepD)) (.tup []) = some (.sh (.bl false)) := by
      rw [eqO_nilT (n := 2) (sh_tup fun d hd => by
        obtain ⟨q, _, rfl⟩ := List.mem_map.mp hd
        exact sh_tup (n := 0) fun d hd => by
          rcases List.mem_cons.mp hd with rfl | hd
          · exact sh_int
          · rw [List.mem_singleton.mp hd]; exact sh_int) (by decide)]
      cases st with
      | nil => exact absurd rfl hne
      | cons _ _ => rfl
    refine w_seq (ρ' := [some ro, some ah, some (.sh L), none, none]) (w_ifF (P := fun o => o = .next _) (ρ' := [some ro, some ah, some (.sh L), none, none]) (by
      simp only [mAndT, mOrT, mBl, mOpS, mOpN, mBind, mMap, mPure, mSubN, mSub, asSh, mCall, f1, f2, mConsB, mNameB, mNameV, mNameM, DL.intD, liftB, liftI, toD_sh, toD_lst, List.getElem?_cons_zero, List.getElem?_cons_succ, List.map_cons, List.map_nil, pen_cells, pen_at, pen_digits, pen_count, pen_fold, put_at, put_digits, put_count, put_fold, List.set_cons_zero, List.set_cons_succ, sPut, sBind, sAsg, isSh, Bool.false_or, Bool.true_or, if_true, if_false, Bool.false_eq_true, reduceIte, subI, mCallF, mHas, mConsO, DL.fill, putBack, slotSh_s, slotSh_sh, slotSh_ct, List.tail_cons, List.head?_cons, Option.join_some, mIsi, ty, mTru, truD, l1, e1, Bool.not_true, i0, mLst, mCons, List.length_cons, List.length_nil, ni, show (0 + 1 + 1 ≤ lim) = True from eq_true (by decide)]) rfl) ?_
    refine w_seq (ρ' := [some ro, some ah, some (.sh L), none, none]) (w_ifF (P := fun o => o = .next _) (ρ' := [some ro, some ah, some (.sh L), none, none]) (by
      simp only [mAndT, mOrT, mBl, mOpS, mOpN, mBind, mMap, mPure, mSubN, mSub, asSh, mCall, f1, f2, mConsB, mNameB, mNameV, mNameM, DL.intD, liftB, liftI, toD_sh, toD_lst, List.getElem?_cons_zero, List.getElem?_cons_succ, List.map_cons, List.map_nil, pen_cells, pen_at, pen_digits, pen_count, pen_fold, put_at, put_digits, put_count, put_fold, List.set_cons_zero, List.set_cons_succ, sPut, sBind, sAsg, isSh, Bool.false_or, Bool.true_or, if_true, if_false, Bool.false_eq_true, reduceIte, subI, mCallF, mHas, mConsO, DL.fill, putBack, slotSh_s, slotSh_sh, slotSh_ct, List.tail_cons, List.head?_cons, Option.join_some, mIf, mTru, truD, l1, gt, i0, i1, e2, ho.len, index_spec, le, lt, Bool.and_self, Bool.not_true]) rfl) ?_
    refine w_seq (ρ' := [some ro, some ah, some (.sh L), none, none]) (w_ifF (P := fun o => o = .next _) (ρ' := [some ro, some ah, some (.sh L), none, none]) (by
      simp only [mAndT, mOrT, mBl, mOpS, mOpN, mBind, mMap, mPure, mSubN, mSub, asSh, mCall, f1, f2, mConsB, mNameB, mNameV, mNameM, DL.intD, liftB, liftI, toD_sh, toD_lst, List.getElem?_cons_zero, List.getElem?_cons_succ, List.map_cons, List.map_nil, pen_cells, pen_at, pen_digits, pen_count, pen_fold, put_at, put_digits, put_count, put_fold, List.set_cons_zero, List.set_cons_succ, sPut, sBind, sAsg, isSh, Bool.false_or, Bool.true_or, if_true, if_false, Bool.false_eq_true, reduceIte, subI, mCallF, mHas, mConsO, DL.fill, putBack, slotSh_s, slotSh_sh, slotSh_ct, List.tail_cons, List.head?_cons, Option.join_some, i0, e2]) rfl) ?_
    refine w_seq (ρ' := [some ro, some ah, some (.sh L), none, none]) (w_ifF (P := fun o => o = .next _) (ρ' := [some ro, some ah, some (.sh L), none, none]) (by
      simp only [mAndT, mOrT, mBl, mOpS, mOpN, mBind, mMap, mPure, mSubN, mSub, asSh, mCall, f1, f2, mConsB, mNameB, mNameV, mNameM, DL.intD, liftB, liftI, toD_sh, toD_lst, List.getElem?_cons_zero, List.getElem?_cons_succ, List.map_cons, List.map_nil, pen_cells, pen_at, pen_digits, pen_count, pen_fold, put_at, put_digits, put_count, put_fold, List.set_cons_zero, List.set_cons_succ, sPut, sBind, sAsg, isSh, Bool.false_or, Bool.true_or, if_true, if_false, Bool.false_eq_true, reduceIte, subI, mCallF, mHas, mConsO, DL.fill, putBack, slotSh_s, slotSh_sh, slotSh_ct, List.tail_cons, List.head?_cons, Option.join_some, mIsi, mTru, truD, l1, n3, i2, ty2, mTup, List.length_nil, show (0 ≤ lim) = True from eq_true (Nat.zero_le _), nt, Bool.not_true]) rfl) ?_
    refine w_seq (ρ' := [some ro, some ah, some (.sh L), some (.sh (lits c0)), none]) (by
      simp only [mAndT, mOrT, mBl, mOpS, mOpN, mBind, mMap, mPure, mSubN, mSub, asSh, mCall, f1, f2, mConsB, mNameB, mNameV, mNameM, DL.intD, liftB, liftI, toD_sh, toD_lst, List.getElem?_cons_zero, List.getElem?_cons_succ, List.map_cons, List.map_nil, pen_cells, pen_at, pen_digits, pen_count, pen_fold, put_at, put_digits, put_count, put_fold, List.set_cons_zero, List.set_cons_succ, sPut, sBind, sAsg, isSh, Bool.false_or, Bool.true_or, if_true, if_false, Bool.false_eq_true, reduceIte, subI, mCallF, mHas, mConsO, DL.fill, putBack, slotSh_s, slotSh_sh, slotSh_ct, List.tail_cons, List.head?_cons, Option.join_some, i1, ho.item it0]) ?_
    refine w_seqI (fun ρ => ∃ y, ρ = [some ro, some ah, some (.sh L), some (.sh (lits c)), y]) ?_ ?_
    · refine w_for (P := NextI _) (fun k ρ => ∃ cc y, ρ = [some ro, some ah, some (.sh L), some (.sh (lits cc)), y] ∧ Cl 6 cc ∧ chainGo ahead cc (st.drop k) = some c) (ds := st.map stepD) (ρ' := [some ro, some ah, some (.sh L), some (.sh (lits c0)), none]) (by
          simp only [mAndT, mOrT, mBl, mOpS, mOpN, mBind, mMap, mPure, mSubN, mSub, asSh, mCall, f1, f2, mConsB, mNameB, mNameV, mNameM, DL.intD, liftB, liftI, toD_sh, toD_lst, List.getElem?_cons_zero, List.getElem?_cons_succ, List.map_cons, List.map_nil, pen_cells, pen_at, pen_digits, pen_count, pen_fold, put_at, put_digits, put_count, put_fold, List.set_cons_zero, List.set_cons_succ, sPut, sBind, sAsg, isSh, Bool.false_or, Bool.true_or, if_true, if_false, Bool.false_eq_true, reduceIte, subI, mCallF, mHas, mConsO, DL.fill, putBack, slotSh_s, slotSh_sh, slotSh_ct, List.tail_cons, List.head?_cons, Option.join_some, i2, seqD]) ⟨c0, none, rfl, hc0, by simpa using h⟩ ?_ ?_
      · rintro k d ρ hd ⟨cc, y, rfl, hcc, hgo⟩
        rw [List.getElem?_map] at hd
        cases hp : st[k]? with
        | none => rw [hp] at hd; cases hd
        | some p =>
        rw [hp] at hd
        cases hd
        have hmem : p ∈ st := List.mem_iff_getElem?.mpr ⟨k, hp⟩
        rw [drop_cons hp] at hgo
        obtain ⟨v, kk⟩ := p
        unfold chainGo at hgo
        cases ek : ahead[kk]? with
        | none => rw [ek] at hgo; cases hgo
        | some dd =>
        rw [ek] at hgo
        simp only at hgo
        cases er : res cc dd (v : Int) with
        | none => rw [er] at hgo; cases hgo
        | some ee =>
        rw [er] at hgo
        simp only at hgo
        have hdd : Cl 6 dd := hc dd (List.mem_iff_getElem?.mpr ⟨kk, ek⟩)
        have hv1 : 1 ≤ v := hv _ hmem
        have itk : (ahead.map lits)[kk]? = some (lits dd) := by rw [List.getElem?_map, ek]; rfl
        obtain ⟨fs, hrs⟩ := resolved_spec (a := cc) (b := dd) (v := (v : Int)) (by have := hcc.len; have := hdd.len; omega)
        rw [er] at hrs
        have lkk : kk < ahead.length := (List.getElem?_eq_some_iff.mp ek).1
        refine ⟨[some ro, some ah, some (.sh L), some (.sh (lits cc)), some (.sh (stepD (v, kk)))], rfl, .inl ⟨[some ro, some ah, some (.sh L), some (.sh (lits ee)), some (.sh (stepD (v, kk)))], .inl ?_, ee, _, rfl, res_cl er hcc hdd, hgo⟩⟩
        have ty3 : isiD ["tuple"] (stepD (v, kk)) = some true := rfl
        have l2 : lenD (stepD (v, kk)) = some (.sh (.int 2)) := rfl
        have n2 : neO (.int 2) (.int 2) = some (.sh (.bl false)) := rfl
        have lt1 : decide ((v : Int) < 1) = false := decide_eq_false (by omega)
        have le2 : decide ((0 : Int) ≤ (kk : Int)) = true := decide_eq_true (by omega)
        have lt2 : decide ((kk : Int) < ((ahead.map lits).length : Int)) = true := decide_eq_true (by rw [List.length_map]; omega)
        have nn : isO (lits ee) .non = some (.sh (.bl false)) := rfl
        refine w_seq (P := fun o => o = .next _) (ρ' := [some ro, some ah, some (.sh L), some (.sh (lits cc)), some (.sh (stepD (v, kk)))]) (w_ifF (P := fun o => o = .next _) (ρ' := [some ro, some ah, some (.sh L), some (.sh (lits cc)), some (.sh (stepD (v, kk)))]) (by
          simp only [mAndT, mOrT, mBl, mOpS, mOpN, mBind, mMap, mPure, mSubN, mSub, asSh, mCall, f1, f2, mConsB, mNameB, mNameV, mNameM, DL.intD, liftB, liftI, toD_sh, toD_lst, List.getElem?_cons_zero, List.getElem?_cons_succ, List.map_cons, List.map_nil, pen_cells, pen_at, pen_digits, pen_count, pen_fold, put_at, put_digits, put_count, put_fold, List.set_cons_zero, List.set_cons_succ, sPut, sBind, sAsg, isSh, Bool.false_or, Bool.true_or, if_true, if_false, Bool.false_eq_true, reduceIte, subI, mCallF, mHas, mConsO, DL.fill, putBack, slotSh_s, slotSh_sh, slotSh_ct, List.tail_cons, List.head?_cons, Option.join_some, mIsi, ty3, mTru, truD, l2, n2, fst_step, snd_step, whole_int, lt1, Bool.not_true]) rfl) ?_
        refine w_seq (P := fun o => o = .next _) (ρ' := [some ro, some ah, some (.sh L), some (.sh (lits cc)), some (.sh (stepD (v, kk)))]) (w_ifF (P := fun o => o = .next _) (ρ' := [some ro, some ah, some (.sh L), some (.sh (lits cc)), some (.sh (stepD (v, kk)))]) (by
          simp only [mAndT, mOrT, mBl, mOpS, mOpN, mBind, mMap, mPure, mSubN, mSub, asSh, mCall, f1, f2, mConsB, mNameB, mNameV, mNameM, DL.intD, liftB, liftI, toD_sh, toD_lst, List.getElem?_cons_zero, List.getElem?_cons_succ, List.map_cons, List.map_nil, pen_cells, pen_at, pen_digits, pen_count, pen_fold, put_at, put_digits, put_count, put_fold, List.set_cons_zero, List.set_cons_succ, sPut, sBind, sAsg, isSh, Bool.false_or, Bool.true_or, if_true, if_false, Bool.false_eq_true, reduceIte, subI, mCallF, mHas, mConsO, DL.fill, putBack, slotSh_s, slotSh_sh, slotSh_ct, List.tail_cons, List.head?_cons, Option.join_some, mTru, truD, fst_step, snd_step, ho.len, index_spec, le2, lt2, Bool.and_self, Bool.not_true]) rfl) ?_
        refine w_seq (P := fun o => o = .next _) (ρ' := [some ro, some ah, some (.sh L), some (.sh (lits ee)), some (.sh (stepD (v, kk)))]) (by
          simp only [mAndT, mOrT, mBl, mOpS, mOpN, mBind, mMap, mPure, mSubN, mSub, asSh, mCall, f1, f2, mConsB, mNameB, mNameV, mNameM, DL.intD, liftB, liftI, toD_sh, toD_lst, List.getElem?_cons_zero, List.getElem?_cons_succ, List.map_cons, List.map_nil, pen_cells, pen_at, pen_digits, pen_count, pen_fold, put_at, put_digits, put_count, put_fold, List.set_cons_zero, List.set_cons_succ, sPut, sBind, sAsg, isSh, Bool.false_or, Bool.true_or, if_true, if_false, Bool.false_eq_true, reduceIte, subI, mCallF, mHas, mConsO, DL.fill, putBack, slotSh_s, slotSh_sh, slotSh_ct, List.tail_cons, List.head?_cons, Option.join_some, fst_step, snd_step, ho.item itk, hrs, optD]) ?_
        exact w_ifF (P := fun o => o = .next _) (ρ' := [some ro, some ah, some (.sh L), some (.sh (lits ee)), some (.sh (stepD (v, kk)))]) (by
          simp only [mAndT, mOrT, mBl, mOpS, mOpN, mBind, mMap, mPure, mSubN, mSub, asSh, mCall, f1, f2, mConsB, mNameB, mNameV, mNameM, DL.intD, liftB, liftI, toD_sh, toD_lst, List.getElem?_cons_zero, List.getElem?_cons_succ, List.map_cons, List.map_nil, pen_cells, pen_at, pen_digits, pen_count, pen_fold, put_at, put_digits, put_count, put_fold, List.set_cons_zero, List.set_cons_succ, sPut, sBind, sAsg, isSh, Bool.false_or, Bool.true_or, if_true, if_false, Bool.false_eq_true, reduceIte, subI, mCallF, mHas, mConsO, DL.fill, putBack, slotSh_s, slotSh_sh, slotSh_ct, List.tail_cons, List.head?_cons, Option.join_some, nn]) rfl
      · rintro ρ ⟨cc, y, rfl, hcc, hgo⟩
        rw [List.length_map, List.drop_length] at hgo
        cases hgo
        exact nextI ⟨y, rfl⟩
    · rintro _ ⟨y, rfl⟩
      exact w_ret (r := .sh (lits c)) (ρ' := [some ro, some ah, some (.sh L), none, y]) rfl ⟨rfl, none, y, rfl⟩
end K24

end

section
set_option Elab.async false
set_option linter.all false
set_option maxRecDepth 100000
namespace K24
open PySem L2 RZ DL PyProof.Rows
theorem chainGo_cl {ahead : List (List Int)} (hc : ∀ d ∈ ahead, Cl 6 d) : ∀ {st : List (Nat × Nat)} {c e : List Int}, Cl 6 c → chainGo ahead c st = some e → Cl 6 e
  | [], c, e, h, he => by cases he; exact h
  | (v, k) :: st, c, e, h, he => by
    unfold chainGo at he
    cases ek : ahead[k]? with
    | none => rw [ek] at he; cases he
    | some d =>
      rw [ek] at he
      simp only at he
      cases er : res c d (v : Int) with
      | none => rw [er] at he; cases he
      | some e' =>
        rw [er] at he
        exact chainGo_cl hc (res_cl er h (hc d (List.mem_iff_getElem?.mpr ⟨k, ek⟩))) he
theorem lineC_cl {row ahead : List (List Int)} (hr : ∀ d ∈ row, Cl 6 d) (hc : ∀ d ∈ ahead, Cl 6 d) {L : Ln} {c : List Int} (h : lineC row ahead L = some c) : Cl 6 c := by
  cases L with
  | given i => exact hr c (List.mem_iff_getElem?.mpr ⟨i, h⟩)
  | chain i st =>
    cases e0 : ahead[i]? with
    | none => simp only [lineC, e0] at h; cases h
    | some c0 =>
      simp only [lineC, e0] at h
      exact chainGo_cl hc (hc c0 (List.mem_iff_getElem?.mpr ⟨i, e0⟩)) h
theorem linesC_cl {row : List (List Int)} (hr : ∀ d ∈ row, Cl 6 d) : ∀ {ls : List Ln} {acc out : List (List Int)}, (∀ d ∈ acc, Cl 6 d) → linesC row ls acc = some out → ∀ d ∈ out, Cl 6 d
  | [], acc, out, h, e => by cases e; exact h
  | l :: ls, acc, out, h, e => by
    unfold linesC at e
    cases el : lineC row acc l with
    | none => rw [el] at e; cases e
    | some c =>
      rw [el] at e
      refine linesC_cl hr (fun d hd => ?_) e
      rcases List.mem_append.mp hd with hd | hd
      · exact h d hd
      · rw [List.mem_singleton.mp hd]; exact lineC_cl hr h el
theorem linesC_len {row : List (List Int)} : ∀ {ls : List Ln} {acc out : List (List Int)}, linesC row ls acc = some out → out.length = acc.length + ls.length
  | [], acc, out, e => by cases e; rfl
  | l :: ls, acc, out, e => by
    unfold linesC at e
    cases el : lineC row acc l with
    | none => rw [el] at e; cases e
    | some c =>
      rw [el] at e
      have := linesC_len e
      simp at this ⊢
      omega
theorem isO_c {b : Bool} {c : List Int} : isO (cD b c) .non = some (.sh (.bl false)) := by cases b <;> rfl
theorem tup_c {b : Bool} {c : List Int} : tupleD (cD b c) = some (.sh (lits c)) := by cases b <;> rfl
theorem all_spec {l : Bool} {ro : O} {row out : List (List Int)} {ls : List Ln} (hr : Row ro (row.map (cD l))) (hc : ∀ d ∈ row, Cl 6 d) (hok : ∀ L ∈ ls, L.ok) (hl : ls.length ≤ 1000) (h : linesC row ls [] = some out) :
    sem_all_clauses [ro, .sh (.tup (ls.map Ln.d))] = .ok (.sh (.tup (out.map lits))) [some ro, some (.sh (.tup (ls.map Ln.d)))] := by
  suffices hs : RetI (fun o ρ => o = .sh (.tup (out.map lits)) ∧ ∃ x y z, ρ = [some ro, some (.sh (.tup (ls.map Ln.d))), x, y, z]) (d_all_clauses [some ro, some (.sh (.tup (ls.map Ln.d))), none, none, none]) by
    obtain ⟨_, _, e, rfl, x, y, z, rfl⟩ := hs
    rw [sem_all_clauses, sem_ret (n := 2) rfl e]
    rfl
  unfold d_all_clauses
  have ty : isiD ["tuple"] (.tup (ls.map Ln.d)) = some true := rfl
  refine w_seq (ρ' := [some ro, some (.sh (.tup (ls.map Ln.d))), none, none, none]) (w_ifF (P := fun o => o = .next _) (ρ' := [some ro, some (.sh (.tup (ls.map Ln.d))), none, none, none]) (by
    simp only [mAndT, mOrT, mBl, mOpS, mOpN, mBind, mMap, mPure, mSubN, mSub, asSh, mCall, f1, f2, mConsB, mNameB, mNameV, mNameM, DL.intD, liftB, liftI, toD_sh, toD_lst, List.getElem?_cons_zero, List.getElem?_cons_succ, List.map_cons, List.map_nil, pen_cells, pen_at, pen_digits, pen_count, pen_fold, put_at, put_digits, put_count, put_fold, List.set_cons_zero, List.set_cons_succ, sPut, sBind, sAsg, isSh, Bool.false_or, Bool.true_or, if_true, if_false, Bool.false_eq_true, reduceIte, subI, mCallF, mHas, mConsO, DL.fill, putBack, slotSh_s, slotSh_sh, slotSh_ct, List.tail_cons, List.head?_cons, Option.join_some, mIsi, ty, mTru, truD, Bool.not_true]) rfl) ?_
  refine w_seq (ρ' := [some ro, some (.sh (.tup (ls.map Ln.d))), some (.lst []), none, none]) rfl ?_
  refine w_seqI (fun ρ => ∃ y z, ρ = [some ro, some (.sh (.tup (ls.map Ln.d))), some (.lst (out.map lits)), y, z]) ?_ ?_
  · refine w_for (P := NextI _) (fun k ρ => ∃ acc y z, ρ = [some ro, some (.sh (.tup (ls.map Ln.d))), some (.lst (acc.map lits)), y, z] ∧ (∀ d ∈ acc, Cl 6 d) ∧ acc.length = k ∧ linesC row (ls.drop k) acc = some out) (ds := ls.map Ln.d) (ρ' := [some ro, some (.sh (.tup (ls.map Ln.d))), some (.lst []), none, none]) rfl ⟨[], none, none, rfl, by simp, rfl, by simpa using h⟩ ?_ ?_
    · rintro k d ρ hd ⟨acc, y, z, rfl, hacc, hk, hgo⟩
      rw [List.getElem?_map] at hd
      cases hp : ls[k]? with
      | none => rw [hp] at hd; cases hd
      | some L =>
      rw [hp] at hd
      cases hd
      have hmem : L ∈ ls := List.mem_iff_getElem?.mpr ⟨k, hp⟩
      have hkl : k < ls.length := (List.getElem?_eq_some_iff.mp hp).1
      rw [drop_cons hp] at hgo
      unfold linesC at hgo
      cases el : lineC row acc L with
      | none => rw [el] at hgo; cases hgo
      | some c =>
      rw [el] at hgo
      simp only at hgo
      obtain ⟨b, hs⟩ := line_spec (ah := .lst (acc.map lits)) hr (.own _) (hok L hmem) hacc el
      have al : (acc.map lits).length < lim := by rw [List.length_map]; unfold lim; omega
      refine ⟨[some ro, some (.sh (.tup (ls.map Ln.d))), some (.lst (acc.map lits)), some (.sh L.d), z], rfl, .inl ⟨[some ro, some (.sh (.tup (ls.map Ln.d))), some (.lst ((acc ++ [c]).map lits)), some (.sh L.d), some (.sh (cD b c))], .inl ?_, acc ++ [c], _, _, rfl, ?_, by simp [hk], hgo⟩⟩
      · refine w_seq (P := fun o => o = .next _) (ρ' := [some ro, some (.sh (.tup (ls.map Ln.d))), some (.lst (acc.map lits)), some (.sh L.d), some (.sh (cD b c))]) ?_ ?_
        · cases hr with
          | own => simp only [mAndT, mOrT, mBl, mOpS, mOpN, mBind, mMap, mPure, mSubN, mSub, asSh, mCall, f1, f2, mConsB, mNameB, mNameV, mNameM, DL.intD, liftB, liftI, toD_sh, toD_lst, List.getElem?_cons_zero, List.getElem?_cons_succ, List.map_cons, List.map_nil, pen_cells, pen_at, pen_digits, pen_count, pen_fold, put_at, put_digits, put_count, put_fold, List.set_cons_zero, List.set_cons_succ, sPut, sBind, sAsg, isSh, Bool.false_or, Bool.true_or, if_true, if_false, Bool.false_eq_true, reduceIte, subI, mCallF, mHas, mConsO, DL.fill, putBack, slotSh_s, slotSh_sh, slotSh_ct, List.tail_cons, List.head?_cons, Option.join_some, hs]
          | lst => simp only [mAndT, mOrT, mBl, mOpS, mOpN, mBind, mMap, mPure, mSubN, mSub, asSh, mCall, f1, f2, mConsB, mNameB, mNameV, mNameM, DL.intD, liftB, liftI, toD_sh, toD_lst, List.getElem?_cons_zero, List.getElem?_cons_succ, List.map_cons, List.map_nil, pen_cells, pen_at, pen_digits, pen_count, pen_fold, put_at, put_digits, put_count, put_fold, List.set_cons_zero, List.set_cons_succ, sPut, sBind, sAsg, isSh, Bool.false_or, Bool.true_or, if_true, if_false, Bool.false_eq_true, reduceIte, subI, mCallF, mHas, mConsO, DL.fill, putBack, slotSh_s, slotSh_sh, slotSh_ct, List.tail_cons, List.head?_cons, Option.join_some, hs]
          | tup => simp only [mAndT, mOrT, mBl, mOpS, mOpN, mBind, mMap, mPure, mSubN, mSub, asSh, mCall, f1, f2, mConsB, mNameB, mNameV, mNameM, DL.intD, liftB, liftI, toD_sh, toD_lst, List.getElem?_cons_zero, List.getElem?_cons_succ, List.map_cons, List.map_nil, pen_cells, pen_at, pen_digits, pen_count, pen_fold, put_at, put_digits, put_count, put_fold, List.set_cons_zero, List.set_cons_succ, sPut, sBind, sAsg, isSh, Bool.false_or, Bool.true_or, if_true, if_false, Bool.false_eq_true, reduceIte, subI, mCallF, mHas, mConsO, DL.fill, putBack, slotSh_s, slotSh_sh, slotSh_ct, List.tail_cons, List.head?_cons, Option.join_some, hs]
        · refine w_seq (P := fun o => o = .next _) (ρ' := [some ro, some (.sh (.tup (ls.map Ln.d))), some (.lst (acc.map lits)), some (.sh L.d), some (.sh (cD b c))]) (w_ifF (P := fun o => o = .next _) (ρ' := [some ro, some (.sh (.tup (ls.map Ln.d))), some (.lst (acc.map lits)), some (.sh L.d), some (.sh (cD b c))]) (by
            simp only [mAndT, mOrT, mBl, mOpS, mOpN, mBind, mMap, mPure, mSubN, mSub, asSh, mCall, f1, f2, mConsB, mNameB, mNameV, mNameM, DL.intD, liftB, liftI, toD_sh, toD_lst, List.getElem?_cons_zero, List.getElem?_cons_succ, List.map_cons, List.map_nil, pen_cells, pen_at, pen_digits, pen_count, pen_fold, put_at, put_digits, put_count, put_fold, List.set_cons_zero, List.set_cons_succ, sPut, sBind, sAsg, isSh, Bool.false_or, Bool.true_or, if_true, if_false, Bool.false_eq_true, reduceIte, subI, mCallF, mHas, mConsO, DL.fill, putBack, slotSh_s, slotSh_sh, slotSh_ct, List.tail_cons, List.head?_cons, Option.join_some, isO_c]) rfl) ?_
          simp only [sApp, mAndT, mOrT, mBl, mOpS, mOpN, mBind, mMap, mPure, mSubN, mSub, asSh, mCall, f1, f2, mConsB, mNameB, mNameV, mNameM, DL.intD, liftB, liftI, toD_sh, toD_lst, List.getElem?_cons_zero, List.getElem?_cons_succ, List.map_cons, List.map_nil, pen_cells, pen_at, pen_digits, pen_count, pen_fold, put_at, put_digits, put_count, put_fold, List.set_cons_zero, List.set_cons_succ, sPut, sBind, sAsg, isSh, Bool.false_or, Bool.true_or, if_true, if_false, Bool.false_eq_true, reduceIte, subI, mCallF, mHas, mConsO, DL.fill, putBack, slotSh_s, slotSh_sh, slotSh_ct, List.tail_cons, List.head?_cons, Option.join_some, tup_c, al, List.map_append]
      · intro d hd
        rcases List.mem_append.mp hd with hd | hd
        · exact hacc d hd
        · rw [List.mem_singleton.mp hd]; exact lineC_cl hc hacc el
    · rintro ρ ⟨acc, y, z, rfl, hacc, hk, hgo⟩
      rw [List.length_map, List.drop_length] at hgo
      cases hgo
      exact nextI ⟨y, z, rfl⟩
  · rintro _ ⟨y, z, rfl⟩
    exact w_ret (r := .sh (.tup (out.map lits))) (ρ' := [some ro, some (.sh (.tup (ls.map Ln.d))), some (.lst (out.map lits)), y, z]) rfl ⟨rfl, _, y, z, rfl⟩
theorem llc_spec {ro : O} {row out : List (List Int)} {ls : List Ln} (hr : Row ro (row.map lits)) (hc : ∀ d ∈ row, Cl 6 d) (hok : ∀ L ∈ ls, L.ok) (hl : ls.length ≤ 1000) (h : linesC row ls [] = some out) :
    sem__law_line_clauses [ro, .sh (.tup (ls.map Ln.d))] = .ok (.sh (.tup (out.map lits))) [some ro, some (.sh (.tup (ls.map Ln.d)))] := by
  suffices hs : RetI (fun o ρ => o = .sh (.tup (out.map lits)) ∧ ∃ x y z, ρ = [some ro, some (.sh (.tup (ls.map Ln.d))), x, y, z]) (d__law_line_clauses [some ro, some (.sh (.tup (ls.map Ln.d))), none, none, none]) by
    obtain ⟨_, _, e, rfl, x, y, z, rfl⟩ := hs
    rw [sem__law_line_clauses, sem_ret (n := 2) rfl e]
    rfl
  unfold d__law_line_clauses
  have ty : isiD ["tuple"] (.tup (ls.map Ln.d)) = some true := rfl
  refine w_seq (ρ' := [some ro, some (.sh (.tup (ls.map Ln.d))), none, none, none]) (w_ifF (P := fun o => o = .next _) (ρ' := [some ro, some (.sh (.tup (ls.map Ln.d))), none, none, none]) (by
    simp only [mAndT, mOrT, mBl, mOpS, mOpN, mBind, mMap, mPure, mSubN, mSub, asSh, mCall, f1, f2, mConsB, mNameB, mNameV, mNameM, DL.intD, liftB, liftI, toD_sh, toD_lst, List.getElem?_cons_zero, List.getElem?_cons_succ, List.map_cons, List.map_nil, pen_cells, pen_at, pen_digits, pen_count, pen_fold, put_at, put_digits, put_count, put_fold, List.set_cons_zero, List.set_cons_succ, sPut, sBind, sAsg, isSh, Bool.false_or, Bool.true_or, if_true, if_false, Bool.false_eq_true, reduceIte, subI, mCallF, mHas, mConsO, DL.fill, putBack, slotSh_s, slotSh_sh, slotSh_ct, List.tail_cons, List.head?_cons, Option.join_some, mIsi, ty, mTru, truD, Bool.not_true]) rfl) ?_
  refine w_seq (ρ' := [some ro, some (.sh (.tup (ls.map Ln.d))), some (.lst []), none, none]) rfl ?_
  refine w_seqI (fun ρ => ∃ y z, ρ = [some ro, some (.sh (.tup (ls.map Ln.d))), some (.lst (out.map lits)), y, z]) ?_ ?_
  · refine w_for (P := NextI _) (fun k ρ => ∃ acc y z, ρ = [some ro, some (.sh (.tup (ls.map Ln.d))), some (.lst (acc.map lits)), y, z] ∧ (∀ d ∈ acc, Cl 6 d) ∧ acc.length = k ∧ linesC row (ls.drop k) acc = some out) (ds := ls.map Ln.d) (ρ' := [some ro, some (.sh (.tup (ls.map Ln.d))), some (.lst []), none, none]) rfl ⟨[], none, none, rfl, by simp, rfl, by simpa using h⟩ ?_ ?_
    · rintro k d ρ hd ⟨acc, y, z, rfl, hacc, hk, hgo⟩
      rw [List.getElem?_map] at hd
      cases hp : ls[k]? with
      | none => rw [hp] at hd; cases hd
      | some L =>
      rw [hp] at hd
      cases hd
      have hmem : L ∈ ls := List.mem_iff_getElem?.mpr ⟨k, hp⟩
      have hkl : k < ls.length := (List.getElem?_eq_some_iff.mp hp).1
      rw [drop_cons hp] at hgo
      unfold linesC at hgo
      cases el : lineC row acc L with
      | none => rw [el] at hgo; cases hgo
      | some c =>
      rw [el] at hgo
      simp only at hgo
      have hs := lof_spec (ah := .lst (acc.map lits)) hr (.own _) (hok L hmem) hacc el
      have al : (acc.map lits).length < lim := by rw [List.length_map]; unfold lim; omega
      have isn : isO (lits c) .non = some (.sh (.bl false)) := rfl
      refine ⟨[some ro, some (.sh (.tup (ls.map Ln.d))), some (.lst (acc.map lits)), some (.sh L.d), z], rfl, .inl ⟨[some ro, some (.sh (.tup (ls.map Ln.d))), some (.lst ((acc ++ [c]).map lits)), some (.sh L.d), some (.sh (lits c))], .inl ?_, acc ++ [c], _, _, rfl, ?_, by simp [hk], hgo⟩⟩
      · refine w_seq (P := fun o => o = .next _) (ρ' := [some ro, some (.sh (.tup (ls.map Ln.d))), some (.lst (acc.map lits)), some (.sh L.d), some (.sh (lits c))]) ?_ ?_
        · cases hr with
          | own => simp only [mAndT, mOrT, mBl, mOpS, mOpN, mBind, mMap, mPure, mSubN, mSub, asSh, mCall, f1, f2, mConsB, mNameB, mNameV, mNameM, DL.intD, liftB, liftI, toD_sh, toD_lst, List.getElem?_cons_zero, List.getElem?_cons_succ, List.map_cons, List.map_nil, pen_cells, pen_at, pen_digits, pen_count, pen_fold, put_at, put_digits, put_count, put_fold, List.set_cons_zero, List.set_cons_succ, sPut, sBind, sAsg, isSh, Bool.false_or, Bool.true_or, if_true, if_false, Bool.false_eq_true, reduceIte, subI, mCallF, mHas, mConsO, DL.fill, putBack, slotSh_s, slotSh_sh, slotSh_ct, List.tail_cons, List.head?_cons, Option.join_some, hs]
          | lst => simp only [mAndT, mOrT, mBl, mOpS, mOpN, mBind, mMap, mPure, mSubN, mSub, asSh, mCall, f1, f2, mConsB, mNameB, mNameV, mNameM, DL.intD, liftB, liftI, toD_sh, toD_lst, List.getElem?_cons_zero, List.getElem?_cons_succ, List.map_cons, List.map_nil, pen_cells, pen_at, pen_digits, pen_count, pen_fold, put_at, put_digits, put_count, put_fold, List.set_cons_zero, List.set_cons_succ, sPut, sBind, sAsg, isSh, Bool.false_or, Bool.true_or, if_true, if_false, Bool.false_eq_true, reduceIte, subI, mCallF, mHas, mConsO, DL.fill, putBack, slotSh_s, slotSh_sh, slotSh_ct, List.tail_cons, List.head?_cons, Option.join_some, hs]
          | tup => simp only [mAndT, mOrT, mBl, mOpS, mOpN, mBind, mMap, mPure, mSubN, mSub, asSh, mCall, f1, f2, mConsB, mNameB, mNameV, mNameM, DL.intD, liftB, liftI, toD_sh, toD_lst, List.getElem?_cons_zero, List.getElem?_cons_succ, List.map_cons, List.map_nil, pen_cells, pen_at, pen_digits, pen_count, pen_fold, put_at, put_digits, put_count, put_fold, List.set_cons_zero, List.set_cons_succ, sPut, sBind, sAsg, isSh, Bool.false_or, Bool.true_or, if_true, if_false, Bool.false_eq_true, reduceIte, subI, mCallF, mHas, mConsO, DL.fill, putBack, slotSh_s, slotSh_sh, slotSh_ct, List.tail_cons, List.head?_cons, Option.join_some, hs]
        · refine w_seq (P := fun o => o = .next _) (ρ' := [some ro, some (.sh (.tup (ls.map Ln.d))), some (.lst (acc.map lits)), some (.sh L.d), some (.sh (lits c))]) (w_ifF (P := fun o => o = .next _) (ρ' := [some ro, some (.sh (.tup (ls.map Ln.d))), some (.lst (acc.map lits)), some (.sh L.d), some (.sh (lits c))]) (by
            simp only [mAndT, mOrT, mBl, mOpS, mOpN, mBind, mMap, mPure, mSubN, mSub, asSh, mCall, f1, f2, mConsB, mNameB, mNameV, mNameM, DL.intD, liftB, liftI, toD_sh, toD_lst, List.getElem?_cons_zero, List.getElem?_cons_succ, List.map_cons, List.map_nil, pen_cells, pen_at, pen_digits, pen_count, pen_fold, put_at, put_digits, put_count, put_fold, List.set_cons_zero, List.set_cons_succ, sPut, sBind, sAsg, isSh, Bool.false_or, Bool.true_or, if_true, if_false, Bool.false_eq_true, reduceIte, subI, mCallF, mHas, mConsO, DL.fill, putBack, slotSh_s, slotSh_sh, slotSh_ct, List.tail_cons, List.head?_cons, Option.join_some, isn]) rfl) ?_
          simp only [sApp, mAndT, mOrT, mBl, mOpS, mOpN, mBind, mMap, mPure, mSubN, mSub, asSh, mCall, f1, f2, mConsB, mNameB, mNameV, mNameM, DL.intD, liftB, liftI, toD_sh, toD_lst, List.getElem?_cons_zero, List.getElem?_cons_succ, List.map_cons, List.map_nil, pen_cells, pen_at, pen_digits, pen_count, pen_fold, put_at, put_digits, put_count, put_fold, List.set_cons_zero, List.set_cons_succ, sPut, sBind, sAsg, isSh, Bool.false_or, Bool.true_or, if_true, if_false, Bool.false_eq_true, reduceIte, subI, mCallF, mHas, mConsO, DL.fill, putBack, slotSh_s, slotSh_sh, slotSh_ct, List.tail_cons, List.head?_cons, Option.join_some, al, List.map_append]
      · intro d hd
        rcases List.mem_append.mp hd with hd | hd
        · exact hacc d hd
        · rw [List.mem_singleton.mp hd]; exact lineC_cl hc hacc el
    · rintro ρ ⟨acc, y, z, rfl, hacc, hk, hgo⟩
      rw [List.length_map, List.drop_length] at hgo
      cases hgo
      exact nextI ⟨y, z, rfl⟩
  · rintro _ ⟨y, z, rfl⟩
    exact w_ret (r := .sh (.tup (out.map lits))) (ρ' := [some ro, some (.sh (.tup (ls.map Ln.d))), some (.lst (out.map lits)), y, z]) rfl ⟨rfl, _, y, z, rfl⟩
theorem mIf_T {α : Type} {t : M Bool} {m n : M α} {ρ ρ' : DL.Env} (h : t ρ = .ok true ρ') : mIf t m n ρ = m ρ' := by unfold mIf; rw [mBind_ok h]; rfl
theorem mIf_F {α : Type} {t : M Bool} {m n : M α} {ρ ρ' : DL.Env} (h : t ρ = .ok false ρ') : mIf t m n ρ = n ρ' := by unfold mIf; rw [mBind_ok h]; rfl
/-- nested tuples -/
inductive Tn : Nat → D → Prop
  | int {n : Nat} (i : Int) : Tn n (.int i)
  | str {n : Nat} (x : Str) : Tn n (.str x)
  | tup {n : Nat} {ds : List D} (h : ∀ d ∈ ds, Tn n d) (hl : ds.length ≤ lim) : Tn (n + 1) (.tup ds)
theorem as_rows_spec : ∀ {k n : Nat} {d : D}, Tn n d → n < k → sem_as_rows k [.sh d] = .ok (.sh d) [some (.sh d)]
  | 0, _, _, _, h => absurd h (Nat.not_lt_zero _)
  | k + 1, _, _, .int i, _ => by
    have hs : d_as_rows (sem_as_rows k) [some (.sh (.int i)), none] = .ret (.sh (.int i)) [some (.sh (.int i)), none] := rfl
    rw [sem_as_rows, sem_ret (n := 1) rfl hs]
    rfl
  | k + 1, _, _, .str x, _ => by
    have hs : d_as_rows (sem_as_rows k) [some (.sh (.str x)), none] = .ret (.sh (.str x)) [some (.sh (.str x)), none] := rfl
    rw [sem_as_rows, sem_ret (n := 1) rfl hs]
    rfl
  | k + 1, n + 1, _, .tup (ds := ds) h hl, hk => by
    have lc := m_lcA (vs := [1]) (src := mBind (mNameV 0) seqD) (bn := bName 1) (e := mMap O.toD (mCallF (sem_as_rows k) [some 1] (mHas 1 (mPure [])))) (ρ := [some (.sh (.tup ds)), none]) (ρ' := [some (.sh (.tup ds)), none]) (xs := ds) (fun d => d) (fun d => d) (by
      rw [List.map_id']; rfl) rfl hl fun d hd => ⟨[some (.sh (.tup ds)), some (.sh d)], rfl, [some (.sh (.tup ds)), some (.sh d)], by
      have ih := as_rows_spec (h d hd) (show n < k by omega)
      simp only [mAndT, mOrT, mBl, mOpS, mOpN, mBind, mMap, mPure, mSubN, mSub, asSh, mCall, f1, f2, mConsB, mNameB, mNameV, mNameM, DL.intD, liftB, liftI, toD_sh, toD_lst, List.getElem?_cons_zero, List.getElem?_cons_succ, List.map_cons, List.map_nil, pen_cells, pen_at, pen_digits, pen_count, pen_fold, put_at, put_digits, put_count, put_fold, List.set_cons_zero, List.set_cons_succ, sPut, sBind, sAsg, isSh, Bool.false_or, Bool.true_or, if_true, if_false, Bool.false_eq_true, reduceIte, subI, mCallF, mHas, mConsO, DL.fill, putBack, slotSh_s, slotSh_sh, slotSh_ct, List.tail_cons, List.head?_cons, Option.join_some, ih], rfl, rfl⟩
    have ty : isiD ["tuple", "list"] (.tup ds) = some true := rfl
    have tu : tupleD (.lst (ds.map fun d => d)) = some (.sh (.tup ds)) := by rw [List.map_id']; rfl
    have hs : d_as_rows (sem_as_rows k) [some (.sh (.tup ds)), none] = .ret (.sh (.tup ds)) [some (.sh (.tup ds)), none] := by
      unfold d_as_rows sRet
      have e1 : mCall (f1 tupleD) (mConsB true (mMap (fun o => ((none : Option Nat), o)) (mLc [1] (mBind (mNameV 0) seqD) (bName 1) (mPure true) (mMap O.toD (mCallF (sem_as_rows k) [some 1] (mHas 1 (mPure [])))))) (mPure [])) [some (.sh (.tup ds)), none] = .ok (.sh (.tup ds)) [some (.sh (.tup ds)), none] := by
        unfold mCall mConsB
        rw [mBind_ok (a := [(none, .lst (ds.map fun d => d))]) (ρ' := [some (.sh (.tup ds)), none])]
        · simp only [mAndT, mOrT, mBl, mOpS, mOpN, mBind, mMap, mPure, mSubN, mSub, asSh, mCall, f1, f2, mConsB, mNameB, mNameV, mNameM, DL.intD, liftB, liftI, toD_sh, toD_lst, List.getElem?_cons_zero, List.getElem?_cons_succ, List.map_cons, List.map_nil, pen_cells, pen_at, pen_digits, pen_count, pen_fold, put_at, put_digits, put_count, put_fold, List.set_cons_zero, List.set_cons_succ, sPut, sBind, sAsg, isSh, Bool.false_or, Bool.true_or, if_true, if_false, Bool.false_eq_true, reduceIte, subI, mCallF, mHas, mConsO, DL.fill, putBack, slotSh_s, slotSh_sh, slotSh_ct, List.tail_cons, List.head?_cons, Option.join_some, tu]
        · rw [mBind_ok (mMap_ok lc)]
          rfl
      have e2 := mIf_T (m := mCall (f1 tupleD) (mConsB true (mMap (fun o => ((none : Option Nat), o)) (mLc [1] (mBind (mNameV 0) seqD) (bName 1) (mPure true) (mMap O.toD (mCallF (sem_as_rows k) [some 1] (mHas 1 (mPure [])))))) (mPure []))) (n := mMap O.sh (mNameV 0)) (t := mTru (mMap (fun d => ((none : Option Nat), O.sh d)) (mIsi ["tuple", "list"] (mNameB 0)))) (ρ := [some (.sh (.tup ds)), none]) (ρ' := [some (.sh (.tup ds)), none]) (by
        simp only [mAndT, mOrT, mBl, mOpS, mOpN, mBind, mMap, mPure, mSubN, mSub, asSh, mCall, f1, f2, mConsB, mNameB, mNameV, mNameM, DL.intD, liftB, liftI, toD_sh, toD_lst, List.getElem?_cons_zero, List.getElem?_cons_succ, List.map_cons, List.map_nil, pen_cells, pen_at, pen_digits, pen_count, pen_fold, put_at, put_digits, put_count, put_fold, List.set_cons_zero, List.set_cons_succ, sPut, sBind, sAsg, isSh, Bool.false_or, Bool.true_or, if_true, if_false, Bool.false_eq_true, reduceIte, subI, mCallF, mHas, mConsO, DL.fill, putBack, slotSh_s, slotSh_sh, slotSh_ct, List.tail_cons, List.head?_cons, Option.join_some, mIsi, ty, mTru, truD])
      rw [sBind_ok (e2.trans e1)]
    rw [sem_as_rows, sem_ret (n := 1) rfl hs]
    rfl
theorem ln_tn {L : Ln} (h : match L with | .given _ => True | .chain _ st => st.length ≤ 1000) : Tn 3 L.d := by
  cases L with
  | given i => exact .tup (n := 2) (fun d hd => by
      rcases List.mem_cons.mp hd with rfl | hd
      · exact .str _
      · rw [List.mem_singleton.mp hd]; exact .int _) (by show 2 ≤ lim; decide)
  | chain i st => exact .tup (n := 2) (fun d hd => by
      rcases List.mem_cons.mp hd with rfl | hd
      · exact .str _
      · rcases List.mem_cons.mp hd with rfl | hd
        · exact .int _
        · rw [List.mem_singleton.mp hd]
          exact .tup (n := 1) (fun d hd => by
            obtain ⟨q, _, rfl⟩ := List.mem_map.mp hd
            exact .tup (n := 0) (fun d hd => by
              rcases List.mem_cons.mp hd with rfl | hd
              · exact .int _
              · rw [List.mem_singleton.mp hd]; exact .int _) (by show 2 ≤ lim; decide)) (by rw [List.length_map]; have h : st.length ≤ 1000 := h; unfold lim; omega)) (by show 3 ≤ lim; decide)
/-- few steps -/
def Ln.few : Ln → Prop
  | .given _ => True
  | .chain _ st => st.length ≤ 1000
theorem lc_spec {l : Bool} {ro : O} {row out : List (List Int)} {ls : List Ln} (hr : Row ro (row.map (cD l))) (hc : ∀ d ∈ row, Cl 6 d) (hok : ∀ L ∈ ls, L.ok) (hfew : ∀ L ∈ ls, L.few) (hl : ls.length ≤ 1000) (h : linesC row ls [] = some out) :
    sem_line_clauses [ro, .sh (.tup (ls.map Ln.d))] = .ok (.sh (.tup (out.map lits))) [some ro, some (.sh (.tup (ls.map Ln.d)))] := by
  have h1 := all_spec hr hc hok hl h
  have h2 : sem_as_rows 12 [.sh (.tup (ls.map Ln.d))] = .ok (.sh (.tup (ls.map Ln.d))) [some (.sh (.tup (ls.map Ln.d)))] := as_rows_spec (n := 4) (.tup (fun d hd => by
    obtain ⟨L, hL, rfl⟩ := List.mem_map.mp hd
    exact ln_tn (by have := hfew L hL; cases L <;> exact this)) (by rw [List.length_map]; unfold lim; omega)) (by decide)
  have hs : d_line_clauses [some ro, some (.sh (.tup (ls.map Ln.d))), none] = .ret (.sh (.tup (out.map lits))) [some ro, some (.sh (.tup (ls.map Ln.d))), none] := by
    unfold d_line_clauses
    have isn : isO (.tup (out.map lits)) .non = some (.sh (.bl false)) := rfl
    refine w_seq (P := fun o => o = .ret _ _) (ρ' := [some ro, some (.sh (.tup (ls.map Ln.d))), some (.sh (.tup (out.map lits)))]) ?_ ?_
    · cases hr with
      | own => simp only [mAndT, mOrT, mBl, mOpS, mOpN, mBind, mMap, mPure, mSubN, mSub, asSh, mCall, f1, f2, mConsB, mNameB, mNameV, mNameM, DL.intD, liftB, liftI, toD_sh, toD_lst, List.getElem?_cons_zero, List.getElem?_cons_succ, List.map_cons, List.map_nil, pen_cells, pen_at, pen_digits, pen_count, pen_fold, put_at, put_digits, put_count, put_fold, List.set_cons_zero, List.set_cons_succ, sPut, sBind, sAsg, isSh, Bool.false_or, Bool.true_or, if_true, if_false, Bool.false_eq_true, reduceIte, subI, mCallF, mHas, mConsO, DL.fill, putBack, slotSh_s, slotSh_sh, slotSh_ct, List.tail_cons, List.head?_cons, Option.join_some, h2, h1]
      | lst => simp only [mAndT, mOrT, mBl, mOpS, mOpN, mBind, mMap, mPure, mSubN, mSub, asSh, mCall, f1, f2, mConsB, mNameB, mNameV, mNameM, DL.intD, liftB, liftI, toD_sh, toD_lst, List.getElem?_cons_zero, List.getElem?_cons_succ, List.map_cons, List.map_nil, pen_cells, pen_at, pen_digits, pen_count, pen_fold, put_at, put_digits, put_count, put_fold, List.set_cons_zero, List.set_cons_succ, sPut, sBind, sAsg, isSh, Bool.false_or, Bool.true_or, if_true, if_false, Bool.false_eq_true, reduceIte, subI, mCallF, mHas, mConsO, DL.fill, putBack, slotSh_s, slotSh_sh, slotSh_ct, List.tail_cons, List.head?_cons, Option.join_some, h2, h1]
      | tup => simp only [mAndT, mOrT, mBl, mOpS, mOpN, mBind, mMap, mPure, mSubN, mSub, asSh, mCall, f1, f2, mConsB, mNameB, mNameV, mNameM, DL.intD, liftB, liftI, toD_sh, toD_lst, List.getElem?_cons_zero, List.getElem?_cons_succ, List.map_cons, List.map_nil, pen_cells, pen_at, pen_digits, pen_count, pen_fold, put_at, put_digits, put_count, put_fold, List.set_cons_zero, List.set_cons_succ, sPut, sBind, sAsg, isSh, Bool.false_or, Bool.true_or, if_true, if_false, Bool.false_eq_true, reduceIte, subI, mCallF, mHas, mConsO, DL.fill, putBack, slotSh_s, slotSh_sh, slotSh_ct, List.tail_cons, List.head?_cons, Option.join_some, h2, h1]
    · refine w_seq (P := fun o => o = .ret _ _) (ρ' := [some ro, some (.sh (.tup (ls.map Ln.d))), some (.sh (.tup (out.map lits)))]) (w_ifF (P := fun o => o = .next _) (ρ' := [some ro, some (.sh (.tup (ls.map Ln.d))), some (.sh (.tup (out.map lits)))]) (by
        simp only [mAndT, mOrT, mBl, mOpS, mOpN, mBind, mMap, mPure, mSubN, mSub, asSh, mCall, f1, f2, mConsB, mNameB, mNameV, mNameM, DL.intD, liftB, liftI, toD_sh, toD_lst, List.getElem?_cons_zero, List.getElem?_cons_succ, List.map_cons, List.map_nil, pen_cells, pen_at, pen_digits, pen_count, pen_fold, put_at, put_digits, put_count, put_fold, List.set_cons_zero, List.set_cons_succ, sPut, sBind, sAsg, isSh, Bool.false_or, Bool.true_or, if_true, if_false, Bool.false_eq_true, reduceIte, subI, mCallF, mHas, mConsO, DL.fill, putBack, slotSh_s, slotSh_sh, slotSh_ct, List.tail_cons, List.head?_cons, Option.join_some, isn]) rfl) ?_
      rfl
  rw [sem_line_clauses, sem_ret (n := 2) rfl hs]
  rfl
end K24

end

section
set_option Elab.async false
set_option linter.all false
set_option maxRecDepth 100000
namespace K24
open PySem L2 RZ DL PyProof.Rows
theorem mOpS_ok {f : D → D → Option O} {ma : M O} {mb : M (Option Nat × O)} {ρ ρ1 ρ2 : DL.Env} {x r : O} {y : Option Nat × O} (h1 : ma ρ = .ok x ρ1) (h2 : mb ρ1 = .ok y ρ2) (h3 : f x.toD y.2.toD = some r) : mOpS f ma mb ρ = .ok r ρ2 := by
  unfold mOpS
  rw [mBind_ok h1, mBind_ok h2, h3]
  rfl
theorem mOpN_ok {f : D → D → Option O} {i : Nat} {mb : M (Option Nat × O)} {ρ ρ2 : DL.Env} {o0 o r : O} {y : Option Nat × O} (h0 : ρ[i]? = some (some o0)) (h2 : mb ρ = .ok y ρ2) (h1 : ρ2[i]? = some (some o)) (h3 : f o.toD y.2.toD = some r) : mOpN i f mb ρ = .ok r ρ2 := by
  unfold mOpN
  rw [h0]
  simp only
  rw [mBind_ok h2, h1]
  simp only
  rw [h3]
theorem mBl_ok {m : M O} {ρ ρ' : DL.Env} {b : Bool} (h : m ρ = .ok (.sh (.bl b)) ρ') : mBl m ρ = .ok b ρ' := by
  unfold mBl
  rw [mBind_ok h]
  rfl
theorem nil_ok {ρ : DL.Env} : (mMap (fun o => ((none : Option Nat), o)) (mLst (mPure []))) ρ = .ok (none, .lst []) ρ := rfl
def bitAt (bs : List Int) (l : Int) : Int := (bs[(absZ l - 1).toNat]?).getD 0
def fitL (bs : List Int) (l : Int) : Bool := bitAt bs l == if 0 < l then 1 else 0
def fitsB (bs c : List Int) : Bool := c.any (fitL bs)
theorem filt_empty {f : List Int} {c : Int → Bool} : ((f.filter c).map fun _ => D.int 1).isEmpty = !(f.any c) := by
  induction f with
  | nil => rfl
  | cons x l ih =>
    rw [List.filter_cons, List.any_cons]
    cases c x with
    | true => rfl
    | false => rw [if_neg (by decide), ih, Bool.false_or]
theorem ones_sh {α : Type} {xs : List α} : Sh 1 (.lst (xs.map fun _ => D.int 1)) := sh_lst fun d hd => by obtain ⟨_, _, rfl⟩ := List.mem_map.mp hd; exact sh_int
theorem fits_spec {bs c : List Int} (h : ∀ l ∈ c, 1 ≤ absZ l ∧ absZ l ≤ bs.length) (hl : c.length ≤ 1000) :
    sem__law_fits [.sh (lits bs), .sh (lits c)] = .ok (.sh (.bl (fitsB bs c))) [some (.sh (lits bs)), some (.sh (lits c))] := by
  have lc := m_lcR (vs := [2]) (src := mBind (mNameV 1) seqD) (bn := bName 2) (t := (mBl (mOpS eqO (mMap O.sh (mBind (mSubN 0 (mMap O.toD (mOpS (liftI subI) (mCall (f1 absD) (mConsB true (mNameB 2) (mPure []))) (mMap (fun d => ((none : Option Nat), O.sh d)) (mPure (.int 1)))))) asSh)) (mMap (fun o => ((none : Option Nat), o)) (mCall (f1 DL.intD) (mConsB true (mMap (fun o => ((none : Option Nat), o)) (mOpN 2 (liftB fun i j => decide (j < i)) (mMap (fun d => ((none : Option Nat), O.sh d)) (mPure (.int 0))))) (mPure []))))))) (e := mPure (.int 1))
    (ρ := [some (.sh (lits bs)), some (.sh (lits c)), none]) (ρ' := [some (.sh (lits bs)), some (.sh (lits c)), none]) (xs := c) D.int (fitL bs) (fun _ => .int 1) rfl rfl (by unfold lim; omega) fun l hlm => ⟨[some (.sh (lits bs)), some (.sh (lits c)), some (.sh (.int l))], [some (.sh (lits bs)), some (.sh (lits c)), some (.sh (.int l))], rfl, by
      obtain ⟨h1, h2⟩ := h l hlm
      have hx : bs[(absZ l - 1).toNat]? = some (bitAt bs l) := by
        have hi : (absZ l - 1).toNat < bs.length := by omega
        unfold bitAt
        rw [List.getElem?_eq_getElem hi]
        rfl
      have ab : absD (.int l) = some (.sh (.int (absZ l))) := rfl
      have it : itemOf (some 0, .sh (lits bs)) (.int (absZ l - 1)) = some (none, .sh (.int (bitAt bs l))) := item_tup (by omega) (by rw [List.getElem?_map, hx]; rfl)
      have e : eqO (.int (bitAt bs l)) (.int (if decide (0 < l) = true then 1 else 0)) = some (.sh (.bl (fitL bs l))) := by
        rw [DL.eq_int]
        unfold fitL
        by_cases h0 : 0 < l <;> simp [h0]
      simp only [mAndT, mOrT, mBl, mOpS, mOpN, mBind, mMap, mPure, mSubN, mSub, asSh, mCall, f1, f2, mConsB, mNameB, mNameV, mNameM, DL.intD, liftB, liftI, toD_sh, toD_lst, List.getElem?_cons_zero, List.getElem?_cons_succ, List.map_cons, List.map_nil, pen_cells, pen_at, pen_digits, pen_count, pen_fold, put_at, put_digits, put_count, put_fold, List.set_cons_zero, List.set_cons_succ, sPut, sBind, sAsg, isSh, Bool.false_or, Bool.true_or, if_true, if_false, Bool.false_eq_true, reduceIte, subI, mCallF, mHas, mConsO, DL.fill, putBack, slotSh_s, slotSh_sh, slotSh_ct, List.tail_cons, List.head?_cons, Option.join_some, ab, it, e], rfl, fun _ => ⟨_, rfl, rfl⟩⟩
  have ne : neO (.lst ((c.filter (fitL bs)).map fun _ => D.int 1)) (.lst []) = some (.sh (.bl (fitsB bs c))) := by
    rw [neO_nilL (n := 1) ones_sh (by decide), filt_empty, Bool.not_not]
    rfl
  have hs : d__law_fits [some (.sh (lits bs)), some (.sh (lits c)), none] = .ret (.sh (.bl (fitsB bs c))) [some (.sh (lits bs)), some (.sh (lits c)), none] := by
    unfold d__law_fits sRet
    rw [sBind_ok (mOpS_ok lc nil_ok ne)]
  rw [sem__law_fits, sem_ret (n := 2) rfl hs]
  rfl
/-! ### rows of bits -/
def grow (rs : List (List Int)) : List (List Int) := rs.flatMap fun r => [r ++ [0], r ++ [1]]
theorem longer_spec {o : O} {rs : List (List Int)} (hr : Row o (rs.map lits)) (hl : rs.length ≤ 100000) (hb : ∀ r ∈ rs, r.length ≤ 1000) : ∃ fs, sem__law_longer [o, .sh (.int 2)] = .ok (.lst ((grow rs).map lits)) fs := by
  suffices h : RetI (fun r _ => r = .lst ((grow rs).map lits)) (d__law_longer [some o, some (.sh (.int 2)), none, none, none]) by
    obtain ⟨_, ρ, e, rfl⟩ := h
    exact ⟨_, by rw [sem__law_longer, sem_ret (n := 2) rfl e]⟩
  unfold d__law_longer
  refine w_seq (ρ' := [some o, some (.sh (.int 2)), some (.lst []), none, none]) rfl ?_
  refine w_seqI (fun ρ => ∃ x y, ρ = [x, some (.sh (.int 2)), some (.lst ((grow rs).map lits)), y, none]) ?_ ?_
  · have src : (mBind (mNameV 0) seqD) [some o, some (.sh (.int 2)), some (.lst []), none, none] = .ok (rs.map lits) [some (.sh o.toD), some (.sh (.int 2)), some (.lst []), none, none] := by cases hr <;> rfl
    refine w_for (P := NextI _) (fun k ρ => ∃ y, ρ = [some (.sh o.toD), some (.sh (.int 2)), some (.lst ((grow (rs.take k)).map lits)), y, none]) src ⟨none, rfl⟩ ?_ ?_
    · rintro k d ρ hd ⟨y, rfl⟩
      rw [List.getElem?_map] at hd
      cases hp : rs[k]? with
      | none => rw [hp] at hd; cases hd
      | some r =>
      rw [hp] at hd
      cases hd
      have hk : k < rs.length := (List.getElem?_eq_some_iff.mp hp).1
      have hrl : r.length ≤ 1000 := hb r (List.mem_iff_getElem?.mpr ⟨k, hp⟩)
      refine ⟨[some (.sh o.toD), some (.sh (.int 2)), some (.lst ((grow (rs.take k)).map lits)), some (.sh (lits r)), none], rfl, .inl ⟨[some (.sh o.toD), some (.sh (.int 2)), some (.lst ((grow (rs.take (k + 1))).map lits)), some (.sh (lits r)), none], .inl ?_, _, rfl⟩⟩
      have lc := m_lcA (vs := [4]) (src := mBind (mCons (mNameV 1) (mPure [])) rng1) (bn := bName 4) (e := mMap O.toD (mOpN 3 addD (mMap (fun d => ((none : Option Nat), O.sh d)) (mTup (mCons (mNameV 4) (mPure [])))))) (ρ := [some (.sh o.toD), some (.sh (.int 2)), some (.lst ((grow (rs.take k)).map lits)), some (.sh (lits r)), none]) (ρ' := [some (.sh o.toD), some (.sh (.int 2)), some (.lst ((grow (rs.take k)).map lits)), some (.sh (lits r)), none]) (xs := [0, 1]) D.int (fun n => lits (r ++ [n])) rfl rfl (by decide) fun n _ =>
        ⟨[some (.sh o.toD), some (.sh (.int 2)), some (.lst ((grow (rs.take k)).map lits)), some (.sh (lits r)), some (.sh (.int n))], rfl, [some (.sh o.toD), some (.sh (.int 2)), some (.lst ((grow (rs.take k)).map lits)), some (.sh (lits r)), some (.sh (.int n))], by
          have ad : addD (lits r) (.tup [.int n]) = some (.sh (lits (r ++ [n]))) := by
            show (if (r.map D.int).length + 1 ≤ lim then some (O.sh (.tup (r.map D.int ++ [D.int n]))) else none) = _
            rw [if_pos (by rw [List.length_map]; unfold lim; omega)]
            unfold lits
            rw [List.map_append]
            rfl
          simp only [mAndT, mOrT, mBl, mOpS, mOpN, mBind, mMap, mPure, mSubN, mSub, asSh, mCall, f1, f2, mConsB, mNameB, mNameV, mNameM, DL.intD, liftB, liftI, toD_sh, toD_lst, List.getElem?_cons_zero, List.getElem?_cons_succ, List.map_cons, List.map_nil, pen_cells, pen_at, pen_digits, pen_count, pen_fold, put_at, put_digits, put_count, put_fold, List.set_cons_zero, List.set_cons_succ, sPut, sBind, sAsg, isSh, Bool.false_or, Bool.true_or, if_true, if_false, Bool.false_eq_true, reduceIte, subI, mCallF, mHas, mConsO, DL.fill, putBack, slotSh_s, slotSh_sh, slotSh_ct, List.tail_cons, List.head?_cons, Option.join_some, mTup, mCons, List.length_cons, List.length_nil, show (0 + 1 ≤ lim) = True from eq_true (by decide), ad], rfl, rfl⟩
      have gl : ∀ (l : List (List Int)), (grow l).length = 2 * l.length := fun l => by
        induction l with
        | nil => rfl
        | cons x l ih => unfold grow at ih ⊢; rw [List.flatMap_cons, List.length_append, ih]; simp; omega
      have ad : addD (.lst ((grow (rs.take k)).map lits)) (.lst [lits (r ++ [0]), lits (r ++ [1])]) = some (.lst ((grow (rs.take (k + 1))).map lits)) := by
        show (if ((grow (rs.take k)).map lits).length + 2 ≤ lim then some (O.lst ((grow (rs.take k)).map lits ++ [lits (r ++ [0]), lits (r ++ [1])])) else none) = _
        have tl : (rs.take k).length ≤ 100000 := by rw [List.length_take]; omega
        rw [if_pos (by rw [List.length_map, gl]; unfold lim; omega)]
        rw [List.take_add_one, hp]
        unfold grow
        rw [List.flatMap_append, List.map_append]
        rfl
      simp only [mAndT, mOrT, mBl, mOpS, mOpN, mBind, mMap, mPure, mSubN, mSub, asSh, mCall, f1, f2, mConsB, mNameB, mNameV, mNameM, lenD, DL.intD, liftB, liftI, toD_sh, toD_lst, List.getElem?_cons_zero, List.getElem?_cons_succ, List.map_cons, List.map_nil, pen_cells, pen_at, pen_digits, pen_count, pen_fold, put_at, put_digits, put_count, put_fold, List.set_cons_zero, List.set_cons_succ, sPut, sBind, sAsg, isSh, Bool.false_or, Bool.true_or, if_true, if_false, Bool.false_eq_true, reduceIte, subI, mCallF, mHas, mConsO, DL.fill, putBack, slotSh_s, slotSh_sh, slotSh_ct, List.tail_cons, List.head?_cons, Option.join_some, ↓lc, ad]
    · rintro ρ ⟨y, rfl⟩
      rw [List.length_map, List.take_length]
      exact nextI ⟨_, y, rfl⟩
  · rintro _ ⟨x, y, rfl⟩
    exact w_ret (r := .lst ((grow rs).map lits)) rfl rfl
theorem grow_len (l : List (List Int)) : (grow l).length = 2 * l.length := by
  induction l with
  | nil => rfl
  | cons x l ih => unfold grow at ih ⊢; rw [List.flatMap_cons, List.length_append, ih]; simp; omega
/-- a row of so many bits -/
def BitR (n : Nat) (r : List Int) : Prop := r.length = n ∧ ∀ b ∈ r, b = 0 ∨ b = 1
theorem grow_bits {n : Nat} {rs : List (List Int)} (h : ∀ r ∈ rs, BitR n r) : ∀ r ∈ grow rs, BitR (n + 1) r := fun r hr => by
  unfold grow at hr
  obtain ⟨q, hq, hr⟩ := List.mem_flatMap.mp hr
  obtain ⟨h1, h2⟩ := h q hq
  rcases List.mem_cons.mp hr with rfl | hr
  · exact ⟨by simp [h1], fun b hb => by
      rcases List.mem_append.mp hb with hb | hb
      · exact h2 b hb
      · rw [List.mem_singleton.mp hb]; exact .inl rfl⟩
  · rw [List.mem_singleton.mp hr]
    exact ⟨by simp [h1], fun b hb => by
      rcases List.mem_append.mp hb with hb | hb
      · exact h2 b hb
      · rw [List.mem_singleton.mp hb]; exact .inr rfl⟩
theorem rows_spec {many : Nat} (hm : many ≤ 12) : ∃ rs : List (List Int), sem__law_rows [.sh (.int (many : Int))] = .ok (.lst (rs.map lits)) [some (.sh (.int (many : Int)))] ∧ (∀ r ∈ rs, BitR many r) ∧ rs.length = 2 ^ many := by
  suffices h : RetI (fun o ρ => ∃ (rs : List (List Int)) (x : Option O), o = .lst (rs.map lits) ∧ ρ = [some (.sh (.int (many : Int))), none, x] ∧ (∀ r ∈ rs, BitR many r) ∧ rs.length = 2 ^ many) (d__law_rows [some (.sh (.int (many : Int))), none, none]) by
    obtain ⟨_, _, e, rs, x, rfl, rfl, h1, h2⟩ := h
    have e' := sem_ret (N := 3) (n := 1) (mu := [0]) (m := d__law_rows) (os := [.sh (.int (many : Int))]) rfl e
    exact ⟨rs, e', h1, h2⟩
  unfold d__law_rows
  refine w_seq (ρ' := [some (.sh (.int (many : Int))), some (.lst (([[]] : List (List Int)).map lits)), none]) rfl ?_
  have src : (mBind (mCons (mNameV 0) (mPure [])) rng1) [some (.sh (.int (many : Int))), some (.lst (([[]] : List (List Int)).map lits)), none] = .ok (rngD 0 many) [some (.sh (.int (many : Int))), some (.lst (([[]] : List (List Int)).map lits)), none] := by
    exact (mBind_ok (m := mCons (mNameV 0) (mPure [])) (k := rng1) (a := [D.int (many : Int)]) (ρ' := [some (.sh (.int (many : Int))), some (.lst (([[]] : List (List Int)).map lits)), none]) rfl).trans (rng1_ok (by omega))
  refine w_seqI (fun ρ => ∃ (rs : List (List Int)) (x : Option O), ρ = [some (.sh (.int (many : Int))), some (.lst (rs.map lits)), x] ∧ (∀ r ∈ rs, BitR many r) ∧ rs.length = 2 ^ many) ?_ ?_
  · refine w_for (P := NextI _) (fun k ρ => k ≤ many ∧ ∃ (rs : List (List Int)) (x : Option O), ρ = [some (.sh (.int (many : Int))), some (.lst (rs.map lits)), x] ∧ (∀ r ∈ rs, BitR k r) ∧ rs.length = 2 ^ k) src ⟨Nat.zero_le _, [[]], none, rfl, fun r hr => by rw [List.mem_singleton.mp hr]; exact ⟨rfl, by simp⟩, rfl⟩ ?_ ?_
    · rintro k d ρ hd ⟨hk, rs, x, rfl, h1, h2⟩
      have hkl : k < many := by have := (List.getElem?_eq_some_iff.mp hd).1; rw [rngD_len] at this; exact this
      have h64 : 2 ^ k ≤ 2 ^ 12 := Nat.pow_le_pow_right (by decide) (by omega)
      obtain ⟨fs, hl⟩ := longer_spec (o := .lst (rs.map lits)) (.own _) (by rw [h2]; omega) (fun r hr => by rw [(h1 r hr).1]; omega)
      refine ⟨[some (.sh (.int (many : Int))), some (.lst (rs.map lits)), some (.sh d)], rfl, .inl ⟨[some (.sh (.int (many : Int))), some (.lst ((grow rs).map lits)), some (.sh d)], .inl ?_, hkl, grow rs, _, rfl, grow_bits h1, by rw [grow_len, h2]; omega⟩⟩
      simp only [mAndT, mOrT, mBl, mOpS, mOpN, mBind, mMap, mPure, mSubN, mSub, asSh, mCall, f1, f2, mConsB, mNameB, mNameV, mNameM, DL.intD, liftB, liftI, toD_sh, toD_lst, List.getElem?_cons_zero, List.getElem?_cons_succ, List.map_cons, List.map_nil, pen_cells, pen_at, pen_digits, pen_count, pen_fold, put_at, put_digits, put_count, put_fold, List.set_cons_zero, List.set_cons_succ, sPut, sBind, sAsg, isSh, Bool.false_or, Bool.true_or, if_true, if_false, Bool.false_eq_true, reduceIte, subI, mCallF, mHas, mConsO, DL.fill, putBack, slotSh_s, slotSh_sh, slotSh_ct, List.tail_cons, List.head?_cons, Option.join_some, hl]
    · rintro ρ ⟨hk, rs, x, rfl, h1, h2⟩
      rw [rngD_len] at h1 h2
      exact nextI ⟨rs, x, rfl, h1, h2⟩
  · rintro _ ⟨rs, x, rfl, h1, h2⟩
    exact w_ret (r := .lst (rs.map lits)) (ρ' := [some (.sh (.int (many : Int))), none, x]) rfl ⟨rs, x, rfl, rfl, h1, h2⟩
theorem models_spec {many : Nat} {row : List (List Int)} (hm : many ≤ 6) (hr : ∀ c ∈ row, Cl many c) (hl : row.length ≤ 1000) :
    ∃ out : List (List Int), sem__law_models [.sh (.int (many : Int)), .sh (.tup (row.map lits)), .sh (.tup [])] = .ok (.lst (out.map lits)) [some (.sh (.int (many : Int))), some (.sh (.tup (row.map lits))), some (.sh (.tup []))] ∧ ∀ bs ∈ out, BitR many bs ∧ ∀ c ∈ row, fitsB bs c = true := by
  obtain ⟨rs, e1, h1, h2⟩ := rows_spec (many := many) (by omega)
  have h64 : 2 ^ many ≤ 2 ^ 6 := Nat.pow_le_pow_right (by decide) hm
  suffices h : RetI (fun o ρ => ∃ (out : List (List Int)) (x : Option O), o = .lst (out.map lits) ∧ ρ = [some (.sh (.int (many : Int))), some (.sh (.tup (row.map lits))), some (.sh (.tup [])), none, x, none, none] ∧ ∀ bs ∈ out, BitR many bs ∧ ∀ c ∈ row, fitsB bs c = true)
      (d__law_models [some (.sh (.int (many : Int))), some (.sh (.tup (row.map lits))), some (.sh (.tup [])), none, none, none, none]) by
    obtain ⟨_, _, e, out, x, rfl, rfl, h⟩ := h
    have e' := sem_ret (N := 7) (n := 3) (mu := [0, 1, 2]) (m := d__law_models) (os := [.sh (.int (many : Int)), .sh (.tup (row.map lits)), .sh (.tup [])]) rfl e
    exact ⟨out, e', h⟩
  unfold d__law_models
  refine w_seq (ρ' := [some (.sh (.int (many : Int))), some (.sh (.tup (row.map lits))), some (.sh (.tup [])), some (.lst (([] : List (List Int)).map lits)), none, none, none]) rfl ?_
  refine w_seqI (fun ρ => ∃ (out : List (List Int)) (x : Option O), ρ = [some (.sh (.int (many : Int))), some (.sh (.tup (row.map lits))), some (.sh (.tup [])), some (.lst (out.map lits)), x, none, none] ∧ ∀ bs ∈ out, BitR many bs ∧ ∀ c ∈ row, fitsB bs c = true) ?_ ?_
  · have src : (mBind (mMap O.toD (mCallF sem__law_rows [some 0] (mHas 0 (mPure [])))) seqD) [some (.sh (.int (many : Int))), some (.sh (.tup (row.map lits))), some (.sh (.tup [])), some (.lst (([] : List (List Int)).map lits)), none, none, none] = .ok (rs.map lits) [some (.sh (.int (many : Int))), some (.sh (.tup (row.map lits))), some (.sh (.tup [])), some (.lst (([] : List (List Int)).map lits)), none, none, none] := by
      have gen : ∀ (S : Sem) (ρ : DL.Env), (∀ (fs : DL.Env), S [.sh (.int (many : Int))] = .ok (.lst (rs.map lits)) fs → (mBind (mMap O.toD (mCallF S [some 0] (mHas 0 (mPure [])))) seqD) (some (.sh (.int (many : Int))) :: ρ) = .ok (rs.map lits) (some (.sh (.int (many : Int))) :: ρ)) := fun S ρ fs hS => by
        simp only [mAndT, mOrT, mBl, mOpS, mOpN, mBind, mMap, mPure, mSubN, mSub, asSh, mCall, f1, f2, mConsB, mNameB, mNameV, mNameM, DL.intD, liftB, liftI, toD_sh, toD_lst, List.getElem?_cons_zero, List.getElem?_cons_succ, List.map_cons, List.map_nil, pen_cells, pen_at, pen_digits, pen_count, pen_fold, put_at, put_digits, put_count, put_fold, List.set_cons_zero, List.set_cons_succ, sPut, sBind, sAsg, isSh, Bool.false_or, Bool.true_or, if_true, if_false, Bool.false_eq_true, reduceIte, subI, mCallF, mHas, mConsO, DL.fill, putBack, slotSh_s, slotSh_sh, slotSh_ct, List.tail_cons, List.head?_cons, Option.join_some, hS, seqD]
      exact gen _ _ _ e1
    refine w_for (P := NextI _) (fun k ρ => ∃ (out : List (List Int)) (x : Option O), ρ = [some (.sh (.int (many : Int))), some (.sh (.tup (row.map lits))), some (.sh (.tup [])), some (.lst (out.map lits)), x, none, none] ∧ out.length ≤ k ∧ ∀ bs ∈ out, BitR many bs ∧ ∀ c ∈ row, fitsB bs c = true) src ⟨[], none, rfl, by simp, by simp⟩ ?_ ?_
    · rintro k d ρ hd ⟨out, x, rfl, hk, ho⟩
      rw [List.getElem?_map] at hd
      cases hp : rs[k]? with
      | none => rw [hp] at hd; cases hd
      | some bs =>
      rw [hp] at hd
      cases hd
      have hbs := h1 bs (List.mem_iff_getElem?.mpr ⟨k, hp⟩)
      have hkl : k < rs.length := (List.getElem?_eq_some_iff.mp hp).1
      have lc := m_lcR (vs := [5]) (src := mBind (mNameV 1) seqD) (bn := bName 5) (t := mMap (fun b => !b) (mTru (mMap (fun o => ((none : Option Nat), o)) (mCallF sem__law_fits [some 4, some 5] (mHas 4 (mHas 5 (mPure []))))))) (e := mPure (.int 1))
        (ρ := [some (.sh (.int (many : Int))), some (.sh (.tup (row.map lits))), some (.sh (.tup [])), some (.lst (out.map lits)), some (.sh (lits bs)), none, none]) (ρ' := [some (.sh (.int (many : Int))), some (.sh (.tup (row.map lits))), some (.sh (.tup [])), some (.lst (out.map lits)), some (.sh (lits bs)), none, none]) (xs := row) lits (fun c => !fitsB bs c) (fun _ => .int 1) rfl rfl (by unfold lim; omega) fun c hcm => ⟨[some (.sh (.int (many : Int))), some (.sh (.tup (row.map lits))), some (.sh (.tup [])), some (.lst (out.map lits)), some (.sh (lits bs)), some (.sh (lits c)), none], [some (.sh (.int (many : Int))), some (.sh (.tup (row.map lits))), some (.sh (.tup [])), some (.lst (out.map lits)), some (.sh (lits bs)), some (.sh (lits c)), none], rfl, by
          have hf := fits_spec (bs := bs) (c := c) (fun l hl => by have := (hr c hcm).rg l hl; rw [hbs.1]; exact this) (by have := (hr c hcm).len; omega)
          simp only [mAndT, mOrT, mBl, mOpS, mOpN, mBind, mMap, mPure, mSubN, mSub, asSh, mCall, f1, f2, mConsB, mNameB, mNameV, mNameM, DL.intD, liftB, liftI, toD_sh, toD_lst, List.getElem?_cons_zero, List.getElem?_cons_succ, List.map_cons, List.map_nil, pen_cells, pen_at, pen_digits, pen_count, pen_fold, put_at, put_digits, put_count, put_fold, List.set_cons_zero, List.set_cons_succ, sPut, sBind, sAsg, isSh, Bool.false_or, Bool.true_or, if_true, if_false, Bool.false_eq_true, reduceIte, subI, mCallF, mHas, mConsO, DL.fill, putBack, slotSh_s, slotSh_sh, slotSh_ct, List.tail_cons, List.head?_cons, Option.join_some, mTru, truD, hf], rfl, fun _ => ⟨_, rfl, rfl⟩⟩
      have le : (row.filter fun c => !fitsB bs c).map (fun _ => D.int 1) = [] ↔ ∀ c ∈ row, fitsB bs c = true := by
        rw [List.map_eq_nil_iff, List.filter_eq_nil_iff]
        simp
      have eo : eqO (.lst ((row.filter fun c => !fitsB bs c).map fun _ => D.int 1)) (.lst []) = some (.sh (.bl ((row.filter fun c => !fitsB bs c).map fun _ => D.int 1).isEmpty)) := eqO_nilL (n := 1) ones_sh (by decide)
      refine ⟨[some (.sh (.int (many : Int))), some (.sh (.tup (row.map lits))), some (.sh (.tup [])), some (.lst (out.map lits)), some (.sh (lits bs)), none, none], rfl, .inl ?_⟩
      have tst := mBl_ok (mOpS_ok lc nil_ok eo)
      cases hq : ((row.filter fun c => !fitsB bs c).map fun _ => D.int 1).isEmpty with
      | false =>
        rw [hq] at tst
        exact ⟨_, .inl (w_ifF (P := fun o => o = .next _) tst rfl), out, _, rfl, by omega, ho⟩
      | true =>
        rw [hq] at tst
        have hall := le.mp (List.isEmpty_iff.mp hq)
        have al : (out.map lits).length < lim := by rw [List.length_map]; unfold lim; omega
        refine ⟨[some (.sh (.int (many : Int))), some (.sh (.tup (row.map lits))), some (.sh (.tup [])), some (.lst ((out ++ [bs]).map lits)), some (.sh (lits bs)), none, none], .inl (w_ifT (P := fun o => o = .next _) tst ?_), out ++ [bs], _, rfl, by simp; omega, fun b hb => ?_⟩
        · have lc0 := m_lcR (vs := [6]) (src := mBind (mNameV 2) seqD) (bn := bName 6) (t := mMap (fun b => !b) (mTru (mMap (fun o => ((none : Option Nat), o)) (mCallF sem__law_fits [some 4, none] (mHas 4 (mConsO (mMap O.sh (mTup (mCons (mNameV 6) (mPure [])))) (mPure []))))))) (e := mPure (.int 1))
            (ρ := [some (.sh (.int (many : Int))), some (.sh (.tup (row.map lits))), some (.sh (.tup [])), some (.lst (out.map lits)), some (.sh (lits bs)), none, none]) (ρ' := [some (.sh (.int (many : Int))), some (.sh (.tup (row.map lits))), some (.sh (.tup [])), some (.lst (out.map lits)), some (.sh (lits bs)), none, none]) (xs := ([] : List Int)) D.int (fun _ => true) (fun _ => .int 1) rfl rfl (Nat.zero_le _) (fun x hx => absurd hx (by simp))
          have eo0 : eqO (.lst ((([] : List Int).filter fun _ => true).map fun _ => D.int 1)) (.lst []) = some (.sh (.bl true)) := eqO_nilL (n := 1) (sh_lst (n := 0) (ds := []) (by simp)) (by decide)
          refine w_ifT (P := fun o => o = .next _) (mBl_ok (mOpS_ok lc0 nil_ok eo0)) ?_
          simp only [sApp, mAndT, mOrT, mBl, mOpS, mOpN, mBind, mMap, mPure, mSubN, mSub, asSh, mCall, f1, f2, mConsB, mNameB, mNameV, mNameM, DL.intD, liftB, liftI, toD_sh, toD_lst, List.getElem?_cons_zero, List.getElem?_cons_succ, List.map_cons, List.map_nil, pen_cells, pen_at, pen_digits, pen_count, pen_fold, put_at, put_digits, put_count, put_fold, List.set_cons_zero, List.set_cons_succ, sPut, sBind, sAsg, isSh, Bool.false_or, Bool.true_or, if_true, if_false, Bool.false_eq_true, reduceIte, subI, mCallF, mHas, mConsO, DL.fill, putBack, slotSh_s, slotSh_sh, slotSh_ct, List.tail_cons, List.head?_cons, Option.join_some, al, List.map_append]
        · rcases List.mem_append.mp hb with hb | hb
          · exact ho b hb
          · rw [List.mem_singleton.mp hb]; exact ⟨hbs, hall⟩
    · rintro ρ ⟨out, x, rfl, hk, ho⟩
      exact nextI ⟨out, x, rfl, ho⟩
  · rintro _ ⟨out, x, rfl, ho⟩
    exact w_ret (r := .lst (out.map lits)) (ρ' := [some (.sh (.int (many : Int))), some (.sh (.tup (row.map lits))), some (.sh (.tup [])), none, x, none, none]) rfl ⟨out, x, rfl, rfl, ho⟩
end K24

end

section
set_option Elab.async false
set_option linter.all false
set_option maxRecDepth 100000
namespace K24
open PySem L2 RZ DL PyProof.Rows
theorem absZ_pos {v : Int} (h : 1 ≤ v) : absZ v = v := by unfold absZ; rw [if_neg (by omega)]
theorem absZ_neg {v : Int} (h : 1 ≤ v) : absZ (-v) = v := by unfold absZ; rw [if_pos (by omega)]; omega
/-- the drawn variables: rising, within bounds -/
structure Vs (m : Nat) (vs : List Int) : Prop where
  pw : vs.Pairwise (· < ·)
  rg : ∀ v ∈ vs, 1 ≤ v ∧ v ≤ m
theorem drawn_spec {k many : Nat} {p : O} {most : Int} (hp : PenOk k p) (h1 : 1 ≤ many) (h6 : many ≤ 6) (hk : k ≤ 1000000000) :
    ∃ c p', sem__law_drawn_clause [p, .sh (.int (many : Int)), .sh (.int most)] = .ok (.sh (lits c)) [some p', some (.sh (.int (many : Int))), some (.sh (.int most))] ∧ Cl many c ∧ PenOk (k + 20) p' := by
  suffices h : RetI (fun o ρ => ∃ c p' x, o = .sh (lits c) ∧ ρ = [some p', some (.sh (.int (many : Int))), some (.sh (.int most)), x, none] ∧ Cl many c ∧ PenOk (k + 20) p') (d__law_drawn_clause [some p, some (.sh (.int (many : Int))), some (.sh (.int most)), none, none]) by
    obtain ⟨_, _, e, c, p', x, rfl, rfl, h2, h3⟩ := h
    have e' := sem_ret (N := 5) (n := 3) (mu := [0, 1, 2]) (m := d__law_drawn_clause) (os := [p, .sh (.int (many : Int)), .sh (.int most)]) rfl e
    exact ⟨c, p', e', h2, h3⟩
  unfold d__law_drawn_clause
  have hm512 : ((many : Int)).natAbs < P512 := lt512 (by omega) (by omega)
  -- the variables
  refine w_seqI (fun ρ => ∃ vs p', ρ = [some p', some (.sh (.int (many : Int))), some (.sh (.int most)), some (.lst (vs.map D.int)), none] ∧ Vs many vs ∧ vs.length ≤ many ∧ PenOk (k + many) p') ?_ ?_
  · have src : (mBind (mCons (mPure (.int 1)) (mCons (mMap O.toD (mOpN 1 addD (mMap (fun d => ((none : Option Nat), O.sh d)) (mPure (.int 1))))) (mPure []))) rng2) [some p, some (.sh (.int (many : Int))), some (.sh (.int most)), none, none] = .ok (rngD 1 many) [some p, some (.sh (.int (many : Int))), some (.sh (.int most)), none, none] := by
      have r2 := rng2_ok (i := 1) (j := (many : Int) + 1) (ρ := [some p, some (.sh (.int (many : Int))), some (.sh (.int most)), none, none]) (by omega)
      have e : ((many : Int) + 1 - 1).toNat = many := by omega
      rw [e] at r2
      exact (mBind_ok (m := mCons (mPure (.int 1)) (mCons (mMap O.toD (mOpN 1 addD (mMap (fun d => ((none : Option Nat), O.sh d)) (mPure (.int 1))))) (mPure []))) (k := rng2) (a := [.int 1, .int ((many : Int) + 1)]) (ρ' := [some p, some (.sh (.int (many : Int))), some (.sh (.int most)), none, none]) rfl).trans r2
    obtain ⟨acc, ρ2, e1, vs, p', e2, e3, e4, e5, e6⟩ := m_lc (vs := [4]) (bn := bName 4) (t := mBl (mOpS (liftB fun i j => decide (i < j)) (mCallF sem__law_draw [some 0, some 1] (mHas 0 (mHas 1 (mPure [])))) (mNameB 2))) (e := mNameV 4)
      (Q := fun acc ρ2 => ∃ vs p', acc = vs.map D.int ∧ ρ2 = [some p', some (.sh (.int (many : Int))), some (.sh (.int most)), none, none] ∧ Vs many vs ∧ vs.length ≤ many ∧ PenOk (k + many) p')
      (fun i acc ρ => i ≤ many ∧ ∃ vs p', acc = vs.map D.int ∧ ρ = [some p', some (.sh (.int (many : Int))), some (.sh (.int most)), none, none] ∧ Vs i vs ∧ vs.length ≤ i ∧ PenOk (k + i) p') src ⟨Nat.zero_le _, [], p, rfl, rfl, ⟨.nil, by simp⟩, by simp, hp⟩ (by
        rintro i d acc ρ hd ⟨hi, vs, p', rfl, rfl, hvs, hvl, hp'⟩
        have hil : i < many := by have := (List.getElem?_eq_some_iff.mp hd).1; rw [rngD_len] at this; exact this
        have ed := rngD_get hd
        subst ed
        obtain ⟨r, p2, er, hr0, hr1, hp2⟩ := draw_spec (many := (many : Int)) hp' (by omega) hm512 (by omega)
        refine ⟨[some p', some (.sh (.int (many : Int))), some (.sh (.int most)), none, some (.sh (.int (1 + (i : Int))))], decide (r < most), [some p2, some (.sh (.int (many : Int))), some (.sh (.int most)), none, some (.sh (.int (1 + (i : Int))))], rfl, ?_, fun _ => ⟨hil, vs, p2, rfl, rfl, ⟨hvs.pw, fun v hv => ⟨(hvs.rg v hv).1, by have := (hvs.rg v hv).2; omega⟩⟩, by omega, hp2⟩, fun _ => ⟨by rw [List.length_map]; unfold lim; omega, .int (1 + (i : Int)), [some p2, some (.sh (.int (many : Int))), some (.sh (.int most)), none, some (.sh (.int (1 + (i : Int))))], rfl, hil, vs ++ [1 + (i : Int)], p2, by simp, rfl, ⟨?_, ?_⟩, by simp; omega, hp2⟩⟩
        · simp only [mAndT, mOrT, mBl, mOpS, mOpN, mBind, mMap, mPure, mSubN, mSub, asSh, mCall, f1, f2, mConsB, mNameB, mNameV, mNameM, DL.intD, liftB, liftI, toD_sh, toD_lst, List.getElem?_cons_zero, List.getElem?_cons_succ, List.map_cons, List.map_nil, pen_cells, pen_at, pen_digits, pen_count, pen_fold, put_at, put_digits, put_count, put_fold, List.set_cons_zero, List.set_cons_succ, sPut, sBind, sAsg, isSh, Bool.false_or, Bool.true_or, if_true, if_false, Bool.false_eq_true, reduceIte, subI, mCallF, mHas, mConsO, DL.fill, putBack, slotSh_s, slotSh_sh, slotSh_ct, List.tail_cons, List.head?_cons, Option.join_some, er, pen_slot hp']
        · rw [List.pairwise_append]
          exact ⟨hvs.pw, List.pairwise_singleton _ _, fun a ha b hb => by rw [List.mem_singleton.mp hb]; have := (hvs.rg a ha).2; omega⟩
        · intro v hv
          rcases List.mem_append.mp hv with hv | hv
          · have := hvs.rg v hv; omega
          · rw [List.mem_singleton.mp hv]; omega) (by
        rintro acc ρ2 ⟨hi, vs, p', rfl, rfl, hvs, hvl, hp'⟩
        rw [rngD_len] at hvs hvl hp'
        exact ⟨vs, p', rfl, rfl, hvs, hvl, hp'⟩)
    subst e2 e3
    exact ⟨_, by unfold sAsg; rw [sBind_ok e1]; rfl, vs, p', rfl, e4, e5, e6⟩
  · rintro _ ⟨vs, p1, rfl, hvs, hvl, hp1⟩
    refine w_seqI (fun ρ => ∃ vs p' o3, ρ = [some p', some (.sh (.int (many : Int))), some (.sh (.int most)), some o3, none] ∧ o3.toD = .lst (vs.map D.int) ∧ Vs many vs ∧ vs.length ≤ 6 ∧ PenOk (k + many + 1) p') ?_ ?_
    · have ne : neO (.lst (vs.map D.int)) (.lst []) = some (.sh (.bl (!(vs.map D.int).isEmpty))) := neO_nilL sh_ints (by decide)
      have tst : mBl (mOpN 3 neO (mMap (fun o => ((none : Option Nat), o)) (mLst (mPure [])))) [some p1, some (.sh (.int (many : Int))), some (.sh (.int most)), some (.lst (vs.map D.int)), none] = .ok (!(vs.map D.int).isEmpty) [some p1, some (.sh (.int (many : Int))), some (.sh (.int most)), some (.lst (vs.map D.int)), none] := mBl_ok (mOpN_ok rfl nil_ok rfl ne)
      cases hq : (vs.map D.int).isEmpty with
      | false =>
        rw [hq] at tst
        have yes : (mMap O.sh (mNameV 3)) [some p1, some (.sh (.int (many : Int))), some (.sh (.int most)), some (.lst (vs.map D.int)), none] = .ok (.sh (.lst (vs.map D.int))) [some p1, some (.sh (.int (many : Int))), some (.sh (.int most)), some (.sh (.lst (vs.map D.int))), none] := rfl
        exact ⟨_, by unfold sAsg; rw [sBind_ok ((mIf_T tst).trans yes)]; rfl, vs, p1, .sh (.lst (vs.map D.int)), rfl, rfl, hvs, by omega, hp1.mono (by omega)⟩
      | true =>
        rw [hq] at tst
        obtain ⟨r, p2, er, hr0, hr1, hp2⟩ := draw_spec (many := (many : Int)) hp1 (by omega) hm512 (by omega)
        refine ⟨[some p2, some (.sh (.int (many : Int))), some (.sh (.int most)), some (.lst [.int (1 + r)]), none], ?_, [1 + r], p2, .lst [.int (1 + r)], rfl, rfl, ⟨List.pairwise_singleton _ _, fun v hv => by rw [List.mem_singleton.mp hv]; omega⟩, by simp, hp2⟩
        unfold sAsg
        have call : (mLst (mCons (mMap O.toD (mOpS addD (mMap O.sh (mPure (.int 1))) (mMap (fun o => ((none : Option Nat), o)) (mCallF sem__law_draw [some 0, some 1] (mHas 0 (mHas 1 (mPure []))))))) (mPure []))) [some p1, some (.sh (.int (many : Int))), some (.sh (.int most)), some (.lst (vs.map D.int)), none] = .ok (.lst [.int (1 + r)]) [some p2, some (.sh (.int (many : Int))), some (.sh (.int most)), some (.lst (vs.map D.int)), none] := by
          simp only [mAndT, mOrT, mBl, mOpS, mOpN, mBind, mMap, mPure, mSubN, mSub, asSh, mCall, f1, f2, mConsB, mNameB, mNameV, mNameM, lenD, DL.intD, liftB, liftI, toD_sh, toD_lst, List.getElem?_cons_zero, List.getElem?_cons_succ, List.map_cons, List.map_nil, pen_cells, pen_at, pen_digits, pen_count, pen_fold, put_at, put_digits, put_count, put_fold, List.set_cons_zero, List.set_cons_succ, sPut, sBind, sAsg, isSh, Bool.false_or, Bool.true_or, if_true, if_false, Bool.false_eq_true, reduceIte, addD, subI, mCallF, mHas, mConsO, DL.fill, putBack, slotSh_s, slotSh_sh, slotSh_ct, List.tail_cons, List.head?_cons, Option.join_some, mLst, mCons, er, pen_slot hp1, List.length_cons, List.length_nil, show (0 + 1 ≤ lim) = True from eq_true (by decide)]
        rw [sBind_ok ((mIf_F tst).trans call)]
        rfl
    · rintro _ ⟨vs, p2, o3, rfl, ho3, hvs, hvl, hp2⟩
      have src : (mBind (mNameV 3) seqD) [some p2, some (.sh (.int (many : Int))), some (.sh (.int most)), some o3, none] = .ok (vs.map D.int) [some p2, some (.sh (.int (many : Int))), some (.sh (.int most)), some (.sh (.lst (vs.map D.int))), none] := by
        simp only [mAndT, mOrT, mBl, mOpS, mOpN, mBind, mMap, mPure, mSubN, mSub, asSh, mCall, f1, f2, mConsB, mNameB, mNameV, mNameM, DL.intD, liftB, liftI, toD_sh, toD_lst, List.getElem?_cons_zero, List.getElem?_cons_succ, List.map_cons, List.map_nil, pen_cells, pen_at, pen_digits, pen_count, pen_fold, put_at, put_digits, put_count, put_fold, List.set_cons_zero, List.set_cons_succ, sPut, sBind, sAsg, isSh, Bool.false_or, Bool.true_or, if_true, if_false, Bool.false_eq_true, reduceIte, subI, mCallF, mHas, mConsO, DL.fill, putBack, slotSh_s, slotSh_sh, slotSh_ct, List.tail_cons, List.head?_cons, Option.join_some, ho3, seqD]
      obtain ⟨acc, ρ2, e1, cs, p', e2, e3, e4, e5⟩ := m_lc (vs := [4]) (bn := bName 4) (t := mPure true) (e := (mMap O.toD (mOpN 4 (liftI mulI) (mMap (fun o => ((none : Option Nat), o)) (mCallF sem__law_pick [some 0, none] (mHas 0 (mConsO (mLst (mCons (mPure (.int 1)) (mCons (mNeg (mPure (.int 1))) (mPure [])))) (mPure []))))))))
        (Q := fun acc ρ2 => ∃ (cs : List Int) (p' : O), acc = cs.map D.int ∧ ρ2 = [some p', some (.sh (.int (many : Int))), some (.sh (.int most)), some (.sh (.lst (vs.map D.int))), none] ∧ cs.map absZ = vs ∧ PenOk (k + 20) p')
        (fun i acc ρ => i ≤ vs.length ∧ ∃ (cs : List Int) (p' : O), acc = cs.map D.int ∧ ρ = [some p', some (.sh (.int (many : Int))), some (.sh (.int most)), some (.sh (.lst (vs.map D.int))), none] ∧ cs.map absZ = vs.take i ∧ PenOk (k + many + 1 + i) p') src ⟨Nat.zero_le _, [], p2, rfl, rfl, rfl, hp2⟩ (by
          rintro i d acc ρ hd ⟨hi, cs, p', rfl, rfl, hcs, hp'⟩
          rw [List.getElem?_map] at hd
          cases hx : vs[i]? with
          | none => rw [hx] at hd; cases hd
          | some v =>
          rw [hx] at hd
          cases hd
          have hil : i < vs.length := (List.getElem?_eq_some_iff.mp hx).1
          have hv := hvs.rg v (List.mem_iff_getElem?.mpr ⟨i, hx⟩)
          obtain ⟨s, p3, es, hs, hp3⟩ := pick_spec (o := .lst [.int 1, .int (-1)]) hp' (.own _) (by simp) (by show 2 ≤ lim; decide) (by omega)
          have hcl : cs.length = i := by
            have := congrArg List.length hcs
            rw [List.length_map, List.length_take] at this
            omega
          obtain ⟨u, rfl, hu⟩ : ∃ u : Int, s = .int u ∧ (u = 1 ∨ u = -1) := by
            rcases List.mem_cons.mp hs with rfl | hs
            · exact ⟨1, rfl, .inl rfl⟩
            · rw [List.mem_singleton.mp hs]; exact ⟨-1, rfl, .inr rfl⟩
          have hav : absZ (v * u) = v := by
            rcases hu with rfl | rfl
            · rw [Int.mul_one]; exact absZ_pos hv.1
            · rw [show v * -1 = -v by omega]; exact absZ_neg hv.1
          have hm : mulI v u = some (v * u) := mul_of (lt512 (by omega) (by omega)) (Nat.lt_of_le_of_lt (show u.natAbs ≤ 1 by rcases hu with rfl | rfl <;> decide) (Nat.lt_trans (by decide) p512))
          refine ⟨[some p', some (.sh (.int (many : Int))), some (.sh (.int most)), some (.sh (.lst (vs.map D.int))), some (.sh (.int v))], true, [some p', some (.sh (.int (many : Int))), some (.sh (.int most)), some (.sh (.lst (vs.map D.int))), some (.sh (.int v))], rfl, rfl, nofun, fun _ => ⟨by rw [List.length_map]; unfold lim; omega, .int (v * u), [some p3, some (.sh (.int (many : Int))), some (.sh (.int most)), some (.sh (.lst (vs.map D.int))), some (.sh (.int v))], ?_, hil, cs ++ [v * u], p3, by simp, rfl, ?_, hp3⟩⟩
          · simp only [mAndT, mOrT, mBl, mOpS, mOpN, mBind, mMap, mPure, mSubN, mSub, asSh, mCall, f1, f2, mConsB, mNameB, mNameV, mNameM, DL.intD, liftB, liftI, toD_sh, toD_lst, List.getElem?_cons_zero, List.getElem?_cons_succ, List.map_cons, List.map_nil, pen_cells, pen_at, pen_digits, pen_count, pen_fold, put_at, put_digits, put_count, put_fold, List.set_cons_zero, List.set_cons_succ, sPut, sBind, sAsg, isSh, Bool.false_or, Bool.true_or, if_true, if_false, Bool.false_eq_true, reduceIte, subI, mCallF, mHas, mConsO, DL.fill, putBack, slotSh_s, slotSh_sh, slotSh_ct, List.tail_cons, List.head?_cons, Option.join_some, mLst, mCons, mNeg, List.length_cons, List.length_nil, show (0 + 1 + 1 ≤ lim) = True from eq_true (by decide), es, pen_slot hp', hm]
          · rw [List.map_append, hcs, List.take_add_one, hx]
            simp [hav]) (by
          rintro acc ρ2 ⟨hi, cs, p', rfl, rfl, hcs, hp'⟩
          rw [List.length_map] at hcs hp'
          rw [List.take_length] at hcs
          exact ⟨cs, p', rfl, rfl, hcs, hp'.mono (by omega)⟩)
      subst e2 e3
      have tu : tupleD (.lst (cs.map D.int)) = some (.sh (lits cs)) := rfl
      have call : (mCall (f1 tupleD) (mConsB true (mMap (fun o => ((none : Option Nat), o)) (mLc [4] (mBind (mNameV 3) seqD) (bName 4) (mPure true) (mMap O.toD (mOpN 4 (liftI mulI) (mMap (fun o => ((none : Option Nat), o)) (mCallF sem__law_pick [some 0, none] (mHas 0 (mConsO (mLst (mCons (mPure (.int 1)) (mCons (mNeg (mPure (.int 1))) (mPure [])))) (mPure []))))))))) (mPure []))) [some p2, some (.sh (.int (many : Int))), some (.sh (.int most)), some o3, none] = .ok (.sh (lits cs)) [some p', some (.sh (.int (many : Int))), some (.sh (.int most)), some (.sh (.lst (vs.map D.int))), none] := by
        unfold mCall mConsB
        rw [mBind_ok (a := [(none, .lst (cs.map D.int))]) (ρ' := [some p', some (.sh (.int (many : Int))), some (.sh (.int most)), some (.sh (.lst (vs.map D.int))), none])]
        · simp only [mAndT, mOrT, mBl, mOpS, mOpN, mBind, mMap, mPure, mSubN, mSub, asSh, mCall, f1, f2, mConsB, mNameB, mNameV, mNameM, DL.intD, liftB, liftI, toD_sh, toD_lst, List.getElem?_cons_zero, List.getElem?_cons_succ, List.map_cons, List.map_nil, pen_cells, pen_at, pen_digits, pen_count, pen_fold, put_at, put_digits, put_count, put_fold, List.set_cons_zero, List.set_cons_succ, sPut, sBind, sAsg, isSh, Bool.false_or, Bool.true_or, if_true, if_false, Bool.false_eq_true, reduceIte, subI, mCallF, mHas, mConsO, DL.fill, putBack, slotSh_s, slotSh_sh, slotSh_ct, List.tail_cons, List.head?_cons, Option.join_some, tu]
        · rw [mBind_ok (mMap_ok e1)]
          rfl
      refine w_ret call ⟨cs, p', _, rfl, rfl, ⟨?_, fun l hl => ?_⟩, e5⟩
      · have := hvs.pw
        rw [← e4, List.pairwise_map] at this
        exact this
      · exact hvs.rg (absZ l) (by rw [← e4]; exact List.mem_map_of_mem hl)
end K24

end

section
set_option Elab.async false
set_option linter.all false
set_option maxRecDepth 100000
namespace K24
open PySem L2 RZ DL PyProof.Rows
theorem row_spec {k many n : Nat} {p : O} (hp : PenOk k p) (h1 : 1 ≤ many) (h6 : many ≤ 6) (hn : n ≤ 20) (hk : k ≤ 900000000) :
    ∃ (row : List (List Int)) (p' : O), sem__law_drawn_row [p, .sh (.int (many : Int)), .sh (.int (n : Int))] = .ok (.sh (.tup (row.map lits))) [some p', some (.sh (.int (many : Int))), some (.sh (.int (n : Int)))] ∧ (∀ c ∈ row, Cl many c) ∧ row.length = n ∧ PenOk (k + 1000) p' := by
  suffices h : RetI (fun o ρ => ∃ (row : List (List Int)) (p' : O), o = .sh (.tup (row.map lits)) ∧ ρ = [some p', some (.sh (.int (many : Int))), some (.sh (.int (n : Int))), none] ∧ (∀ c ∈ row, Cl many c) ∧ row.length = n ∧ PenOk (k + 1000) p') (d__law_drawn_row [some p, some (.sh (.int (many : Int))), some (.sh (.int (n : Int))), none]) by
    obtain ⟨_, _, e, row, p', rfl, rfl, h2, h3, h4⟩ := h
    have e' := sem_ret (N := 4) (n := 3) (mu := [0, 1, 2]) (m := d__law_drawn_row) (os := [p, .sh (.int (many : Int)), .sh (.int (n : Int))]) rfl e
    exact ⟨row, p', e', h2, h3, h4⟩
  unfold d__law_drawn_row
  have src : (mBind (mCons (mNameV 2) (mPure [])) rng1) [some p, some (.sh (.int (many : Int))), some (.sh (.int (n : Int))), none] = .ok (rngD 0 n) [some p, some (.sh (.int (many : Int))), some (.sh (.int (n : Int))), none] :=
    (mBind_ok (m := mCons (mNameV 2) (mPure [])) (k := rng1) (a := [D.int (n : Int)]) (ρ' := [some p, some (.sh (.int (many : Int))), some (.sh (.int (n : Int))), none]) rfl).trans (rng1_ok (by omega))
  obtain ⟨acc, ρ2, e1, row, p', e2, e3, e4, e5, e6⟩ := m_lc (vs := [3]) (bn := bName 3) (t := mPure true) (e := (mMap O.toD (mCallF sem__law_drawn_clause [some 0, some 1, none] (mHas 0 (mHas 1 (mConsO (mCallF sem__law_pick [some 0, none] (mHas 0 (mConsO (mLst (mCons (mPure (.int 1)) (mCons (mPure (.int 2)) (mCons (mPure (.int 2)) (mCons (mPure (.int 3)) (mPure [])))))) (mPure [])))) (mPure [])))))))
    (Q := fun acc ρ2 => ∃ (row : List (List Int)) (p' : O), acc = row.map lits ∧ ρ2 = [some p', some (.sh (.int (many : Int))), some (.sh (.int (n : Int))), none] ∧ (∀ c ∈ row, Cl many c) ∧ row.length = n ∧ PenOk (k + 1000) p')
    (fun i acc ρ => i ≤ n ∧ ∃ (row : List (List Int)) (p' : O), acc = row.map lits ∧ ρ = [some p', some (.sh (.int (many : Int))), some (.sh (.int (n : Int))), none] ∧ (∀ c ∈ row, Cl many c) ∧ row.length = i ∧ PenOk (k + 30 * i) p') src ⟨Nat.zero_le _, [], p, rfl, rfl, by simp, rfl, hp⟩ (by
      rintro i d acc ρ hd ⟨hi, row, p', rfl, rfl, hc, hr, hp'⟩
      have hil : i < n := by have := (List.getElem?_eq_some_iff.mp hd).1; rw [rngD_len] at this; exact this
      have ed := rngD_get hd
      subst ed
      obtain ⟨s, p2, es, hs, hp2⟩ := pick_spec (o := .lst [.int 1, .int 2, .int 2, .int 3]) hp' (.own _) (by simp) (by show 4 ≤ lim; decide) (by omega)
      obtain ⟨u, rfl⟩ : ∃ u : Int, s = .int u := by
        simp only [List.mem_cons, List.not_mem_nil, or_false] at hs
        rcases hs with rfl | rfl | rfl | rfl <;> exact ⟨_, rfl⟩
      obtain ⟨c, p3, ec, hcc, hp3⟩ := drawn_spec (most := u) hp2 h1 h6 (by omega)
      refine ⟨[some p', some (.sh (.int (many : Int))), some (.sh (.int (n : Int))), some (.sh (.int (0 + (i : Int))))], true, [some p', some (.sh (.int (many : Int))), some (.sh (.int (n : Int))), some (.sh (.int (0 + (i : Int))))], rfl, rfl, nofun, fun _ => ⟨by rw [List.length_map]; unfold lim; omega, lits c, [some p3, some (.sh (.int (many : Int))), some (.sh (.int (n : Int))), some (.sh (.int (0 + (i : Int))))], ?_, hil, row ++ [c], p3, by simp, rfl, fun x hx => ?_, by simp [hr], hp3.mono (by omega)⟩⟩
      · have gen : ∀ (S : Sem) (fs : D), S [p2, .sh (.int (many : Int)), .sh (.int u)] = .ok (.sh (lits c)) [some p3, some (.sh (.int (many : Int))), some (.sh (.int u))] →
          (mMap O.toD (mCallF S [some 0, some 1, none] (mHas 0 (mHas 1 (mConsO (mCallF sem__law_pick [some 0, none] (mHas 0 (mConsO (mLst (mCons (mPure (.int 1)) (mCons (mPure (.int 2)) (mCons (mPure (.int 2)) (mCons (mPure (.int 3)) (mPure [])))))) (mPure [])))) (mPure [])))))) [some p', some (.sh (.int (many : Int))), some (.sh (.int (n : Int))), some (.sh (.int (0 + (i : Int))))] = .ok (lits c) [some p3, some (.sh (.int (many : Int))), some (.sh (.int (n : Int))), some (.sh (.int (0 + (i : Int))))] := fun S _ hS => by
          simp only [mAndT, mOrT, mBl, mOpS, mOpN, mBind, mMap, mPure, mSubN, mSub, asSh, mCall, f1, f2, mConsB, mNameB, mNameV, mNameM, DL.intD, liftB, liftI, toD_sh, toD_lst, List.getElem?_cons_zero, List.getElem?_cons_succ, List.map_cons, List.map_nil, pen_cells, pen_at, pen_digits, pen_count, pen_fold, put_at, put_digits, put_count, put_fold, List.set_cons_zero, List.set_cons_succ, sPut, sBind, sAsg, isSh, Bool.false_or, Bool.true_or, if_true, if_false, Bool.false_eq_true, reduceIte, subI, mCallF, mHas, mConsO, DL.fill, putBack, slotSh_s, slotSh_sh, slotSh_ct, List.tail_cons, List.head?_cons, Option.join_some, mLst, mCons, List.length_cons, List.length_nil, show (0 + 1 + 1 + 1 + 1 ≤ lim) = True from eq_true (by decide), es, pen_slot hp', pen_slot hp2, hS]
        exact gen _ .non ec
      · rcases List.mem_append.mp hx with hx | hx
        · exact hc x hx
        · rw [List.mem_singleton.mp hx]; exact hcc) (by
      rintro acc ρ2 ⟨hi, row, p', rfl, rfl, hc, hr, hp'⟩
      rw [rngD_len] at hr hp'
      exact ⟨row, p', rfl, rfl, hc, hr, hp'.mono (by omega)⟩)
  subst e2 e3
  have tu : tupleD (.lst (row.map lits)) = some (.sh (.tup (row.map lits))) := rfl
  refine w_ret (r := .sh (.tup (row.map lits))) (ρ' := [some p', some (.sh (.int (many : Int))), some (.sh (.int (n : Int))), none]) ?_ ⟨row, p', rfl, rfl, e4, e5, e6⟩
  unfold mCall mConsB
  rw [mBind_ok (a := [(none, .lst (row.map lits))]) (ρ' := [some p', some (.sh (.int (many : Int))), some (.sh (.int (n : Int))), none])]
  · simp only [mAndT, mOrT, mBl, mOpS, mOpN, mBind, mMap, mPure, mSubN, mSub, asSh, mCall, f1, f2, mConsB, mNameB, mNameV, mNameM, DL.intD, liftB, liftI, toD_sh, toD_lst, List.getElem?_cons_zero, List.getElem?_cons_succ, List.map_cons, List.map_nil, pen_cells, pen_at, pen_digits, pen_count, pen_fold, put_at, put_digits, put_count, put_fold, List.set_cons_zero, List.set_cons_succ, sPut, sBind, sAsg, isSh, Bool.false_or, Bool.true_or, if_true, if_false, Bool.false_eq_true, reduceIte, subI, mCallF, mHas, mConsO, DL.fill, putBack, slotSh_s, slotSh_sh, slotSh_ct, List.tail_cons, List.head?_cons, Option.join_some, tu]
  · rw [mBind_ok (mMap_ok e1)]
    rfl
/-! ### Fact A -/
theorem fits_iff {bs c : List Int} : fitsB bs c = true ↔ ∃ l ∈ c, fitL bs l = true := by unfold fitsB; exact List.any_eq_true
theorem fit_neg {n : Nat} {bs : List Int} (hb : BitR n bs) {l : Int} (h1 : 1 ≤ absZ l) (h2 : absZ l ≤ n) (h : fitL bs l = true) : fitL bs (-l) = false := by
  have ha : absZ (-l) = absZ l := by unfold absZ; split <;> split <;> omega
  have hbit : bitAt bs l = 0 ∨ bitAt bs l = 1 := by
    unfold bitAt
    have hi : (absZ l - 1).toNat < bs.length := by rw [hb.1]; omega
    rw [List.getElem?_eq_getElem hi]
    exact hb.2 _ (List.getElem_mem hi)
  have hz : l ≠ 0 := fun z => by subst z; unfold absZ at h1; simp at h1
  unfold fitL at h ⊢
  have hbn : bitAt bs (-l) = bitAt bs l := by unfold bitAt; rw [ha]
  rw [hbn]
  by_cases h0 : 0 < l
  · rw [if_pos h0] at h
    rw [if_neg (by omega)]
    have := eq_of_beq h
    rw [this]; rfl
  · rw [if_neg h0] at h
    rw [if_pos (by omega)]
    have := eq_of_beq h
    rw [this]; rfl
theorem fin_mem {f c : List Int} (h : fin f = some c) (l : Int) : l ∈ c ↔ l ∈ f := by
  unfold fin at h
  split at h
  · cases h
  · cases h
    rw [mem_sortA, mem_sortU]
theorem mem_without {c : List Int} {v l : Int} : l ∈ without c v ↔ l ∈ c ∧ l ≠ v := by
  unfold without
  rw [List.mem_filter]
  simp
/-- a resolvent is satisfied wherever both clauses are -/
theorem res_fits {n : Nat} {bs a b c : List Int} {v : Int} (hb : BitR n bs) (ha : Cl n a) (hb' : Cl n b) (h : res a b v = some c) (fa : fitsB bs a = true) (fb : fitsB bs b = true) : fitsB bs c = true := by
  have go : ∀ u : Int, u ∈ a → fin (without a u ++ without b (-u)) = some c → fitsB bs c = true := fun u hu hf => by
    rw [fits_iff] at fa fb ⊢
    by_cases hq : fitL bs u = true
    · obtain ⟨l, hl, hfl⟩ := fb
      refine ⟨l, (fin_mem hf l).mpr (List.mem_append.mpr (.inr (mem_without.mpr ⟨hl, fun e => ?_⟩))), hfl⟩
      have := fit_neg hb (ha.rg u hu).1 (ha.rg u hu).2 hq
      rw [← e, hfl] at this
      cases this
    · obtain ⟨l, hl, hfl⟩ := fa
      exact ⟨l, (fin_mem hf l).mpr (List.mem_append.mpr (.inl (mem_without.mpr ⟨hl, fun e => hq (by rw [← e]; exact hfl)⟩))), hfl⟩
  unfold res at h
  split at h
  · rename_i hc
    exact go v hc.1 h
  · split at h
    · rename_i hc
      exact go (-v) hc.1 (by rw [Int.neg_neg]; exact h)
    · cases h
theorem chainGo_fits {n : Nat} {bs : List Int} {ahead : List (List Int)} (hb : BitR n bs) (hc : ∀ d ∈ ahead, Cl n d ∧ fitsB bs d = true) : ∀ {st : List (Nat × Nat)} {c e : List Int}, Cl n c → fitsB bs c = true → chainGo ahead c st = some e → Cl n e ∧ fitsB bs e = true
  | [], c, e, h, hf, he => by cases he; exact ⟨h, hf⟩
  | (v, k) :: st, c, e, h, hf, he => by
    unfold chainGo at he
    cases ek : ahead[k]? with
    | none => rw [ek] at he; cases he
    | some d =>
      rw [ek] at he
      simp only at he
      have hd := hc d (List.mem_iff_getElem?.mpr ⟨k, ek⟩)
      cases er : res c d (v : Int) with
      | none => rw [er] at he; cases he
      | some e' =>
        rw [er] at he
        exact chainGo_fits hb hc (res_cl er h hd.1) (res_fits hb h hd.1 er hf hd.2) he
theorem linesC_fits {n : Nat} {bs : List Int} {row : List (List Int)} (hb : BitR n bs) (hr : ∀ d ∈ row, Cl n d ∧ fitsB bs d = true) : ∀ {ls : List Ln} {acc out : List (List Int)}, (∀ d ∈ acc, Cl n d ∧ fitsB bs d = true) → linesC row ls acc = some out → ∀ d ∈ out, Cl n d ∧ fitsB bs d = true
  | [], acc, out, h, e => by cases e; exact h
  | l :: ls, acc, out, h, e => by
    unfold linesC at e
    cases el : lineC row acc l with
    | none => rw [el] at e; cases e
    | some c =>
      rw [el] at e
      refine linesC_fits hb hr (fun d hd => ?_) e
      rcases List.mem_append.mp hd with hd | hd
      · exact h d hd
      · rw [List.mem_singleton.mp hd]
        cases l with
        | given i => exact hr c (List.mem_iff_getElem?.mpr ⟨i, el⟩)
        | chain i st =>
          cases e0 : acc[i]? with
          | none => simp only [lineC, e0] at el; cases el
          | some c0 =>
            simp only [lineC, e0] at el
            have h0 := h c0 (List.mem_iff_getElem?.mpr ⟨i, e0⟩)
            exact chainGo_fits hb h h0.1 h0.2 el
end K24

end

section
set_option Elab.async false
set_option linter.all false
set_option maxRecDepth 100000
namespace K24
open PySem L2 RZ DL PyProof.Rows
theorem linesC_app {row : List (List Int)} {l : Ln} : ∀ {ls : List Ln} {acc : List (List Int)}, linesC row (ls ++ [l]) acc = match linesC row ls acc with
    | some out => (match lineC row out l with
      | some c => some (out ++ [c])
      | none => none)
    | none => none
  | [], acc => by
    show linesC row [l] acc = _
    simp only [linesC]
    try (cases lineC row acc l <;> rfl)
  | x :: ls, acc => by
    show linesC row (x :: (ls ++ [l])) acc = _
    unfold linesC
    cases lineC row acc x with
    | none => rfl
    | some c => exact linesC_app
theorem chainGo_app {ahead : List (List Int)} {v k : Nat} : ∀ {st : List (Nat × Nat)} {c e d f : List Int}, chainGo ahead c st = some e → ahead[k]? = some d → res e d (v : Int) = some f → chainGo ahead c (st ++ [(v, k)]) = some f
  | [], c, e, d, f, h, h1, h2 => by
    cases h
    simp only [List.nil_append, chainGo, h1, h2]
  | (v', k') :: st, c, e, d, f, h, h1, h2 => by
    simp only [List.cons_append]
    unfold chainGo at h ⊢
    cases ek : ahead[k']? with
    | none => rw [ek] at h; cases h
    | some d' =>
      rw [ek] at h
      simp only at h ⊢
      cases er : res c d' (v' : Int) with
      | none => rw [er] at h; cases h
      | some e' =>
        rw [er] at h
        exact chainGo_app h h1 h2
theorem item_last {z : Option Nat} {xs : List D} {d : D} : itemOf (z, .lst (xs ++ [d])) (.int (-1)) = some (none, .sh d) := by
  show (match atI (xs ++ [d]) (-1) with
    | some d => some (none, O.sh d)
    | none => none) = _
  rw [DL.atI_last]
theorem isn_opt {r : Option (List Int)} : isnO (optD r) .non = some (.sh (.bl r.isSome)) := by cases r <;> rfl
/-- a way on from c: a variable and a line that resolve -/
def Way (out : List (List Int)) (c : List Int) (w : Nat × Nat) : Prop := 1 ≤ w.1 ∧ ∃ d e, out[w.2]? = some d ∧ res c d (w.1 : Int) = some e
/-- the pairs of a clause and a line -/
def pairs (c d : List Int) (k : Nat) : List (Nat × Nat) := (((c.filter fun l => decide (-l ∈ d)).map fun l => (absZ l).toNat).filter fun (z : Nat) => (res c d (z : Int)).isSome).map fun z => (z, k)
theorem pairs_way {out : List (List Int)} {c d : List Int} {k : Nat} (hc : Cl 6 c) (hk : out[k]? = some d) : ∀ w ∈ pairs c d k, Way out c w := fun w hw => by
  unfold pairs at hw
  obtain ⟨z, hz, rfl⟩ := List.mem_map.mp hw
  obtain ⟨hz1, hz2⟩ := List.mem_filter.mp hz
  obtain ⟨l, hl, rfl⟩ := List.mem_map.mp hz1
  have := hc.rg l (List.mem_filter.mp hl).1
  obtain ⟨e, he⟩ := Option.isSome_iff_exists.mp hz2
  exact ⟨by show 1 ≤ (absZ l).toNat; omega, d, e, hk, he⟩
theorem pairs_len {c d : List Int} {k : Nat} (hc : Cl 6 c) : (pairs c d k).length ≤ 6 := by
  unfold pairs
  rw [List.length_map]
  refine Nat.le_trans (List.length_filter_le _ _) ?_
  rw [List.length_map]
  exact Nat.le_trans (List.length_filter_le _ _) hc.len
section
variable {p : O} {row out : List (List Int)} {ls : List Ln} {n first turn : D} {c : List Int} {st ws : List (Nat × Nat)} {x12 : Option O}
/-- the frame within the laps -/
def lenv (p : O) (row : List (List Int)) (n : Nat) (ls : List Ln) (out : List (List Int)) (x5 x6 x7 x8 x9 x10 x11 x12 : Option O) : DL.Env :=
  [some p, some (.sh (.tup (row.map lits))), some (.sh (.int (n : Int))), some (.lst (ls.map Ln.d)), some (.sh (.tup (out.map lits))), x5, x6, x7, x8, x9, x10, x11, x12, none, none]
end
/-- one line's ways are added -/
theorem ways_step {p : O} {row out : List (List Int)} {n k : Nat} {ls : List Ln} {c d : List Int} {ws : List (Nat × Nat)} {x5 x6 x8 x9 x12 : Option O} (hc : Cl 6 c) (hd : Cl 6 d) (hk : out[k]? = some d) (hw : ws.length ≤ 100000) :
    (sSeq (sAsg 12 (mLc [13] (mBind (mNameV 7) seqD) (bName 13) (mBl (mOpS (inO false) (mMap O.sh (mNeg (mNameV 13))) (mSubN 4 (mNameV 11)))) (mMap O.toD (mCall (f1 absD) (mConsB true (mNameB 13) (mPure []))))))
      (sAsg 10 (mOpN 10 addD (mMap (fun o => ((none : Option Nat), o)) (mLc [14] (mBind (mNameV 12) seqD) (bName 14) (mBl (mOpS isnO (mCallF sem__law_resolved [some 7, none, some 14] (mHas 7 (mConsO (mMap O.sh (mBind (mSubN 4 (mNameV 11)) asSh)) (mHas 14 (mPure []))))) (mMap (fun d => ((none : Option Nat), O.sh d)) (mPure .non)))) (mTup (mCons (mNameV 14) (mCons (mNameV 11) (mPure [])))))))))
      (lenv p row n ls out x5 x6 (some (.sh (lits c))) x8 x9 (some (.lst (ws.map stepD))) (some (.sh (.int (k : Int)))) x12) =
    .next (lenv p row n ls out x5 x6 (some (.sh (lits c))) x8 x9 (some (.lst ((ws ++ pairs c d k).map stepD))) (some (.sh (.int (k : Int)))) (some (.sh (.lst ((c.filter fun l => decide (-l ∈ d)).map fun l => D.int (absZ l)))))) := by
  have it : (out.map lits)[k]? = some (lits d) := by rw [List.getElem?_map, hk]; rfl
  have itk : ∀ {z : Option Nat}, itemOf (z, .sh (.tup (out.map lits))) (.int (k : Int)) = some (none, .sh (lits d)) := fun {z} => item_tup (by omega) (by simpa using it)
  have lc1 := m_lcR (vs := [13]) (src := mBind (mNameV 7) seqD) (bn := bName 13) (t := mBl (mOpS (inO false) (mMap O.sh (mNeg (mNameV 13))) (mSubN 4 (mNameV 11)))) (e := mMap O.toD (mCall (f1 absD) (mConsB true (mNameB 13) (mPure []))))
    (ρ := lenv p row n ls out x5 x6 (some (.sh (lits c))) x8 x9 (some (.lst (ws.map stepD))) (some (.sh (.int (k : Int)))) x12) (ρ' := lenv p row n ls out x5 x6 (some (.sh (lits c))) x8 x9 (some (.lst (ws.map stepD))) (some (.sh (.int (k : Int)))) x12) (xs := c) D.int (fun l => decide (-l ∈ d)) (fun l => .int (absZ l)) rfl rfl (by have := hc.len; unfold lim; omega) fun l _ =>
      ⟨[some p, some (.sh (.tup (row.map lits))), some (.sh (.int (n : Int))), some (.lst (ls.map Ln.d)), some (.sh (.tup (out.map lits))), x5, x6, some (.sh (lits c)), x8, x9, some (.lst (ws.map stepD)), some (.sh (.int (k : Int))), x12, some (.sh (.int l)), none], [some p, some (.sh (.tup (row.map lits))), some (.sh (.int (n : Int))), some (.lst (ls.map Ln.d)), some (.sh (.tup (out.map lits))), x5, x6, some (.sh (lits c)), x8, x9, some (.lst (ws.map stepD)), some (.sh (.int (k : Int))), x12, some (.sh (.int l)), none], rfl, by
        have hin : inO false (.int (-l)) (lits d) = some (.sh (.bl (decide (-l ∈ d)))) := inT_ints
        simp only [mAndT, mOrT, mBl, mOpS, mOpN, mBind, mMap, mPure, mSubN, mSub, asSh, mCall, f1, f2, mConsB, mNameB, mNameV, mNameM, DL.intD, liftB, liftI, toD_sh, toD_lst, List.getElem?_cons_zero, List.getElem?_cons_succ, List.map_cons, List.map_nil, pen_cells, pen_at, pen_digits, pen_count, pen_fold, put_at, put_digits, put_count, put_fold, List.set_cons_zero, List.set_cons_succ, sPut, sBind, sAsg, isSh, Bool.false_or, Bool.true_or, if_true, if_false, Bool.false_eq_true, reduceIte, subI, mCallF, mHas, mConsO, DL.fill, putBack, slotSh_s, slotSh_sh, slotSh_ct, List.tail_cons, List.head?_cons, Option.join_some, mNeg, itk, hin], rfl, fun _ => ⟨_, rfl, rfl⟩⟩
  refine w_seq (P := fun o => o = .next _) (ρ' := lenv p row n ls out x5 x6 (some (.sh (lits c))) x8 x9 (some (.lst (ws.map stepD))) (some (.sh (.int (k : Int)))) (some (.lst ((c.filter fun l => decide (-l ∈ d)).map fun l => D.int (absZ l))))) (by unfold sAsg; rw [sBind_ok lc1]; rfl) ?_
  generalize hzs : ((c.filter fun l => decide (-l ∈ d)).map fun l => (absZ l).toNat) = zs
  have ez : ((c.filter fun l => decide (-l ∈ d)).map fun l => D.int (absZ l)) = zs.map fun z : Nat => D.int (z : Int) := by
    rw [← hzs, List.map_map]
    refine List.map_congr_left fun l hl => ?_
    have := hc.rg l (List.mem_filter.mp hl).1
    show D.int (absZ l) = D.int (((absZ l).toNat : Nat) : Int)
    congr 1
    omega
  have hzl : zs.length ≤ 6 := by
    rw [← hzs, List.length_map]
    exact Nat.le_trans (List.length_filter_le _ _) hc.len
  rw [ez]
  have lc2 := m_lcR (vs := [14]) (src := mBind (mNameV 12) seqD) (bn := bName 14) (t := (mBl (mOpS isnO (mCallF sem__law_resolved [some 7, none, some 14] (mHas 7 (mConsO (mMap O.sh (mBind (mSubN 4 (mNameV 11)) asSh)) (mHas 14 (mPure []))))) (mMap (fun d => ((none : Option Nat), O.sh d)) (mPure .non))))) (e := (mTup (mCons (mNameV 14) (mCons (mNameV 11) (mPure [])))))
    (ρ := lenv p row n ls out x5 x6 (some (.sh (lits c))) x8 x9 (some (.lst (ws.map stepD))) (some (.sh (.int (k : Int)))) (some (.lst (zs.map fun z : Nat => D.int (z : Int))))) (ρ' := lenv p row n ls out x5 x6 (some (.sh (lits c))) x8 x9 (some (.lst (ws.map stepD))) (some (.sh (.int (k : Int)))) (some (.sh (.lst (zs.map fun z : Nat => D.int (z : Int)))))) (xs := zs) (fun z => D.int (z : Int)) (fun z => (res c d (z : Int)).isSome) (fun z => stepD (z, k)) rfl rfl (by unfold lim; omega) fun z _ =>
      ⟨[some p, some (.sh (.tup (row.map lits))), some (.sh (.int (n : Int))), some (.lst (ls.map Ln.d)), some (.sh (.tup (out.map lits))), x5, x6, some (.sh (lits c)), x8, x9, some (.lst (ws.map stepD)), some (.sh (.int (k : Int))), some (.sh (.lst (zs.map fun z : Nat => D.int (z : Int)))), none, some (.sh (.int (z : Int)))], [some p, some (.sh (.tup (row.map lits))), some (.sh (.int (n : Int))), some (.lst (ls.map Ln.d)), some (.sh (.tup (out.map lits))), x5, x6, some (.sh (lits c)), x8, x9, some (.lst (ws.map stepD)), some (.sh (.int (k : Int))), some (.sh (.lst (zs.map fun z : Nat => D.int (z : Int)))), none, some (.sh (.int (z : Int)))], rfl, by
        obtain ⟨fs, er⟩ := resolved_spec (a := c) (b := d) (v := (z : Int)) (by have := hc.len; have := hd.len; omega)
        simp only [mAndT, mOrT, mBl, mOpS, mOpN, mBind, mMap, mPure, mSubN, mSub, asSh, mCall, f1, f2, mConsB, mNameB, mNameV, mNameM, DL.intD, liftB, liftI, toD_sh, toD_lst, List.getElem?_cons_zero, List.getElem?_cons_succ, List.map_cons, List.map_nil, pen_cells, pen_at, pen_digits, pen_count, pen_fold, put_at, put_digits, put_count, put_fold, List.set_cons_zero, List.set_cons_succ, sPut, sBind, sAsg, isSh, Bool.false_or, Bool.true_or, if_true, if_false, Bool.false_eq_true, reduceIte, subI, mCallF, mHas, mConsO, DL.fill, putBack, slotSh_s, slotSh_sh, slotSh_ct, List.tail_cons, List.head?_cons, Option.join_some, itk, er, isn_opt], rfl, fun _ => ⟨_, rfl, rfl⟩⟩
  have ep : ((zs.filter fun (z : Nat) => (res c d (z : Int)).isSome).map fun z => stepD (z, k)) = (pairs c d k).map stepD := by
    unfold pairs
    rw [hzs, List.map_map]
    rfl
  rw [ep] at lc2
  have ad : addD (.lst (ws.map stepD)) (.lst ((pairs c d k).map stepD)) = some (.lst ((ws ++ pairs c d k).map stepD)) := by
    show (if (ws.map stepD).length + ((pairs c d k).map stepD).length ≤ lim then some (O.lst (ws.map stepD ++ (pairs c d k).map stepD)) else none) = _
    rw [if_pos (by rw [List.length_map, List.length_map]; have := pairs_len (d := d) (k := k) hc; unfold lim; omega), List.map_append]
  unfold sAsg
  rw [sBind_ok (mOpN_ok rfl (mMap_ok lc2) rfl ad)]
  rfl
end K24

end

section
set_option Elab.async false
set_option linter.all false
set_option maxRecDepth 100000
namespace K24
open PySem L2 RZ DL PyProof.Rows
/-- what the turns keep: a chain from c0 to c -/
structure Tn2 (k : Nat) (out : List (List Int)) (c0 c : List Int) (st : List (Nat × Nat)) (p : O) : Prop where
  pen : PenOk k p
  cl : Cl 6 c
  go : chainGo out c0 st = some c
  ok : ∀ w ∈ st, 1 ≤ w.1
def waysS : MS := (sSeq (sAsg 12 (mLc [13] (mBind (mNameV 7) seqD) (bName 13) (mBl (mOpS (inO false) (mMap O.sh (mNeg (mNameV 13))) (mSubN 4 (mNameV 11)))) (mMap O.toD (mCall (f1 absD) (mConsB true (mNameB 13) (mPure []))))))
      (sAsg 10 (mOpN 10 addD (mMap (fun o => ((none : Option Nat), o)) (mLc [14] (mBind (mNameV 12) seqD) (bName 14) (mBl (mOpS isnO (mCallF sem__law_resolved [some 7, none, some 14] (mHas 7 (mConsO (mMap O.sh (mBind (mSubN 4 (mNameV 11)) asSh)) (mHas 14 (mPure []))))) (mMap (fun d => ((none : Option Nat), O.sh d)) (mPure .non)))) (mTup (mCons (mNameV 14) (mCons (mNameV 11) (mPure [])))))))))
def turnS : MS := (sSeq (sAsg 10 (mLst (mPure [])))
  (sSeq (sFor (mBind (mCons (mMap O.toD (mCall (f1 lenD) (mConsB true (mNameB 3) (mPure [])))) (mPure [])) rng1) (bName 11)
  waysS)
  (sIf (mBl (mOpN 10 neO (mMap (fun o => ((none : Option Nat), o)) (mLst (mPure []))))) (sSeq (sApp 8 (mMap O.toD (mCallF sem__law_pick [some 0, some 10] (mHas 0 (mHas 10 (mPure []))))))
  (sAsg 7 (mCallF sem__law_resolved [some 7, none, none] (mHas 7 (mConsO (mMap O.sh (mBind (mSubN 4 (mBind (mSub false (mSubN 8 (mNeg (mPure (.int 1)))) (mPure (.int 1))) asSh)) asSh)) (mConsO (mMap O.sh (mBind (mSub false (mSubN 8 (mNeg (mPure (.int 1)))) (mPure (.int 0))) asSh)) (mPure []))))))) sNext)))
theorem turn_step {k n : Nat} {p : O} {row out : List (List Int)} {ls : List Ln} {c0 c : List Int} {st : List (Nat × Nat)} {x5 x6 x9 x10 x11 x12 : Option O} (T : Tn2 k out c0 c st p) (ho : ∀ d ∈ out, Cl 6 d) (hl : ls.length = out.length) (hl2 : ls.length ≤ 20) (hst : st.length ≤ 100) (hk : k ≤ 900000000) :
    NextI (fun ρ => ∃ (p' : O) (c' : List Int) (st' : List (Nat × Nat)) (x10' x11' x12' : Option O), ρ = lenv p' row n ls out x5 x6 (some (.sh (lits c'))) (some (.lst (st'.map stepD))) x9 x10' x11' x12' ∧ Tn2 (k + 1) out c0 c' st' p' ∧ st'.length ≤ st.length + 1)
      (turnS (lenv p row n ls out x5 x6 (some (.sh (lits c))) (some (.lst (st.map stepD))) x9 x10 x11 x12)) := by
  unfold turnS
  refine w_seq (ρ' := lenv p row n ls out x5 x6 (some (.sh (lits c))) (some (.lst (st.map stepD))) x9 (some (.lst (([] : List (Nat × Nat)).map stepD))) x11 x12) rfl ?_
  refine w_seqI (fun ρ => ∃ (ws : List (Nat × Nat)) (x11' x12' : Option O), ρ = lenv p row n ls out x5 x6 (some (.sh (lits c))) (some (.lst (st.map stepD))) x9 (some (.lst (ws.map stepD))) x11' x12' ∧ (∀ w ∈ ws, Way out c w) ∧ ws.length ≤ 6 * ls.length) ?_ ?_
  · have src : (mBind (mCons (mMap O.toD (mCall (f1 lenD) (mConsB true (mNameB 3) (mPure [])))) (mPure [])) rng1) (lenv p row n ls out x5 x6 (some (.sh (lits c))) (some (.lst (st.map stepD))) x9 (some (.lst (([] : List (Nat × Nat)).map stepD))) x11 x12) = .ok (rngD 0 ls.length) (lenv p row n ls out x5 x6 (some (.sh (lits c))) (some (.lst (st.map stepD))) x9 (some (.lst (([] : List (Nat × Nat)).map stepD))) x11 x12) := by
      have r1 := rng1_ok (n := (ls.map Ln.d).length) (ρ := lenv p row n ls out x5 x6 (some (.sh (lits c))) (some (.lst (st.map stepD))) x9 (some (.lst (([] : List (Nat × Nat)).map stepD))) x11 x12) (by rw [List.length_map]; omega)
      have e : rngD 0 (ls.map Ln.d).length = rngD 0 ls.length := by rw [List.length_map]
      rw [e] at r1
      exact (mBind_ok (m := mCons (mMap O.toD (mCall (f1 lenD) (mConsB true (mNameB 3) (mPure [])))) (mPure [])) (k := rng1) (a := [D.int ((ls.map Ln.d).length : Int)]) (ρ' := lenv p row n ls out x5 x6 (some (.sh (lits c))) (some (.lst (st.map stepD))) x9 (some (.lst (([] : List (Nat × Nat)).map stepD))) x11 x12) rfl).trans r1
    refine w_for (P := NextI _) (fun i ρ => i ≤ ls.length ∧ ∃ (ws : List (Nat × Nat)) (x11' x12' : Option O), ρ = lenv p row n ls out x5 x6 (some (.sh (lits c))) (some (.lst (st.map stepD))) x9 (some (.lst (ws.map stepD))) x11' x12' ∧ (∀ w ∈ ws, Way out c w) ∧ ws.length ≤ 6 * i) src ⟨Nat.zero_le _, [], x11, x12, rfl, by simp, by simp⟩ ?_ ?_
    · rintro i d ρ hd ⟨hi, ws, y11, y12, rfl, hw, hwl⟩
      have hil : i < ls.length := by have := (List.getElem?_eq_some_iff.mp hd).1; rw [rngD_len] at this; exact this
      have ed := rngD_get hd
      rw [Int.zero_add] at ed
      subst ed
      obtain ⟨dd, hdd⟩ : ∃ dd, out[i]? = some dd := ⟨_, List.getElem?_eq_getElem (by omega)⟩
      have hcd := ho dd (List.mem_iff_getElem?.mpr ⟨i, hdd⟩)
      have ws1 := ways_step (p := p) (row := row) (n := n) (ls := ls) (x5 := x5) (x6 := x6) (x8 := some (.lst (st.map stepD))) (x9 := x9) (x12 := y12) T.cl hcd hdd (show ws.length ≤ 100000 by omega)
      refine ⟨lenv p row n ls out x5 x6 (some (.sh (lits c))) (some (.lst (st.map stepD))) x9 (some (.lst (ws.map stepD))) (some (.sh (.int (i : Int)))) y12, rfl, .inl ⟨_, .inl ws1, hil, ws ++ pairs c dd i, _, _, rfl, fun w hx => ?_, ?_⟩⟩
      · rcases List.mem_append.mp hx with hx | hx
        · exact hw w hx
        · exact pairs_way T.cl hdd w hx
      · rw [List.length_append]
        have := pairs_len (d := dd) (k := i) T.cl
        omega
    · rintro ρ ⟨hi, ws, y11, y12, rfl, hw, hwl⟩
      rw [rngD_len] at hwl
      exact nextI ⟨ws, y11, y12, rfl, hw, hwl⟩
  · rintro _ ⟨ws, y11, y12, rfl, hw, hwl⟩
    have sw : Sh 2 (.lst (ws.map stepD)) := sh_lst fun d hd => by
      obtain ⟨q, _, rfl⟩ := List.mem_map.mp hd
      exact sh_tup (n := 0) fun d hd => by
        rcases List.mem_cons.mp hd with rfl | hd
        · exact sh_int
        · rw [List.mem_singleton.mp hd]; exact sh_int
    have ne : neO (.lst (ws.map stepD)) (.lst []) = some (.sh (.bl (!(ws.map stepD).isEmpty))) := neO_nilL sw (by decide)
    have tst : mBl (mOpN 10 neO (mMap (fun o => ((none : Option Nat), o)) (mLst (mPure [])))) (lenv p row n ls out x5 x6 (some (.sh (lits c))) (some (.lst (st.map stepD))) x9 (some (.lst (ws.map stepD))) y11 y12) = .ok (!(ws.map stepD).isEmpty) (lenv p row n ls out x5 x6 (some (.sh (lits c))) (some (.lst (st.map stepD))) x9 (some (.lst (ws.map stepD))) y11 y12) := mBl_ok (mOpN_ok rfl nil_ok rfl ne)
    cases hq : (ws.map stepD).isEmpty with
    | true =>
      rw [hq] at tst
      exact w_ifF tst (nextI ⟨p, c, st, _, y11, y12, rfl, ⟨T.pen.mono (by omega), T.cl, T.go, T.ok⟩, by omega⟩)
    | false =>
      rw [hq] at tst
      refine w_ifT tst ?_
      obtain ⟨d, p', ep, hd, hp'⟩ := pick_spec (o := .lst (ws.map stepD)) T.pen (.own _) (by intro z; rw [z] at hq; cases hq) (by rw [List.length_map]; unfold lim; omega) (by omega)
      obtain ⟨⟨v, kk⟩, hvk, rfl⟩ := List.mem_map.mp hd
      obtain ⟨hv, dd, ee, hdd, hee⟩ := hw _ hvk
      have hcd := ho dd (List.mem_iff_getElem?.mpr ⟨kk, hdd⟩)
      have al : (st.map stepD).length < lim := by rw [List.length_map]; unfold lim; omega
      have itk : (out.map lits)[kk]? = some (lits dd) := by rw [List.getElem?_map, hdd]; rfl
      have itk' : ∀ {z : Option Nat}, itemOf (z, .sh (.tup (out.map lits))) (.int (kk : Int)) = some (none, .sh (lits dd)) := fun {z} => item_tup (by omega) (by simpa using itk)
      refine w_seq (ρ' := lenv p' row n ls out x5 x6 (some (.sh (lits c))) (some (.lst ((st ++ [(v, kk)]).map stepD))) x9 (some (.lst (ws.map stepD))) y11 y12) ?_ ?_
      · unfold lenv
        simp only [sApp, mAndT, mOrT, mBl, mOpS, mOpN, mBind, mMap, mPure, mSubN, mSub, asSh, mCall, f1, f2, mConsB, mNameB, mNameV, mNameM, DL.intD, liftB, liftI, toD_sh, toD_lst, List.getElem?_cons_zero, List.getElem?_cons_succ, List.map_cons, List.map_nil, pen_cells, pen_at, pen_digits, pen_count, pen_fold, put_at, put_digits, put_count, put_fold, List.set_cons_zero, List.set_cons_succ, sPut, sBind, sAsg, isSh, Bool.false_or, Bool.true_or, if_true, if_false, Bool.false_eq_true, reduceIte, subI, mCallF, mHas, mConsO, DL.fill, putBack, slotSh_s, slotSh_sh, slotSh_ct, List.tail_cons, List.head?_cons, Option.join_some, ep, pen_slot T.pen, al, List.map_append]
      · obtain ⟨fs, er⟩ := resolved_spec (a := c) (b := dd) (v := (v : Int)) (by have := T.cl.len; have := hcd.len; omega)
        rw [show res c dd (v : Int) = some ee from hee] at er
        refine ⟨lenv p' row n ls out x5 x6 (some (.sh (lits ee))) (some (.lst ((st ++ [(v, kk)]).map stepD))) x9 (some (.lst (ws.map stepD))) y11 y12, ?_, p', ee, st ++ [(v, kk)], _, y11, y12, rfl, ⟨hp', res_cl hee T.cl hcd, chainGo_app T.go hdd hee, fun w hx => ?_⟩, by simp⟩
        · have il : ∀ {z : Option Nat}, itemOf (z, .lst ((st ++ [(v, kk)]).map stepD)) (.int (-1)) = some (none, .sh (stepD (v, kk))) := fun {z} => by
            rw [List.map_append]
            exact item_last
          unfold lenv
          simp only [mAndT, mOrT, mBl, mOpS, mOpN, mBind, mMap, mPure, mSubN, mSub, asSh, mCall, f1, f2, mConsB, mNameB, mNameV, mNameM, DL.intD, liftB, liftI, toD_sh, toD_lst, List.getElem?_cons_zero, List.getElem?_cons_succ, List.map_cons, List.map_nil, pen_cells, pen_at, pen_digits, pen_count, pen_fold, put_at, put_digits, put_count, put_fold, List.set_cons_zero, List.set_cons_succ, sPut, sBind, sAsg, isSh, Bool.false_or, Bool.true_or, if_true, if_false, Bool.false_eq_true, reduceIte, subI, mCallF, mHas, mConsO, DL.fill, putBack, slotSh_s, slotSh_sh, slotSh_ct, List.tail_cons, List.head?_cons, Option.join_some, mNeg, il, snd_step, fst_step, itk', er, optD]
        · rcases List.mem_append.mp hx with hx | hx
          · exact T.ok w hx
          · rw [List.mem_singleton.mp hx]; exact hv
end K24

end

section
set_option Elab.async false
set_option linter.all false
set_option maxRecDepth 100000
namespace K24
open PySem L2 RZ DL PyProof.Rows
/-- the lines so far -/
structure Ls (row : List (List Int)) (ls : List Ln) : Prop where
  ev : ∃ out, linesC row ls [] = some out
  ok : ∀ L ∈ ls, L.ok
  few : ∀ L ∈ ls, L.few
theorem Ls.snoc {row out : List (List Int)} {ls : List Ln} {L : Ln} {c : List Int} (h : Ls row ls) (ho : linesC row ls [] = some out) (hc : lineC row out L = some c) (h1 : L.ok) (h2 : L.few) : Ls row (ls ++ [L]) :=
  ⟨⟨out ++ [c], by rw [linesC_app, ho]; simp only; rw [hc]⟩, fun x hx => by
    rcases List.mem_append.mp hx with hx | hx
    · exact h.ok x hx
    · rw [List.mem_singleton.mp hx]; exact h1, fun x hx => by
    rcases List.mem_append.mp hx with hx | hx
    · exact h.few x hx
    · rw [List.mem_singleton.mp hx]; exact h2⟩
def lenv4 (p : O) (row : List (List Int)) (n : Nat) (ls : List Ln) (x4 x5 x6 x7 x8 x9 x10 x11 x12 : Option O) : DL.Env :=
  [some p, some (.sh (.tup (row.map lits))), some (.sh (.int (n : Int))), some (.lst (ls.map Ln.d)), x4, x5, x6, x7, x8, x9, x10, x11, x12, none, none]
def lapS : MS := (sSeq (sAsg 4 (mCallF sem__law_line_clauses [some 1, none] (mHas 1 (mConsO (mCall (f1 tupleD) (mConsB true (mNameB 3) (mPure []))) (mPure [])))))
  (sSeq (sIf (mOrT (mBl (mOpS eqO (mCallF sem__law_draw [some 0, none] (mHas 0 (mConsO (mMap O.sh (mPure (.int 3))) (mPure [])))) (mMap (fun d => ((none : Option Nat), O.sh d)) (mPure (.int 0))))) (mBl (mOpS (liftB fun i j => decide (i < j)) (mCall (f1 lenD) (mConsB true (mNameB 3) (mPure []))) (mMap (fun d => ((none : Option Nat), O.sh d)) (mPure (.int 3)))))) (sSeq (sApp 3 (mTup (mCons (mPure (.str "given")) (mCons (mMap O.toD (mCallF sem__law_draw [some 0, none] (mHas 0 (mConsO (mCall (f1 lenD) (mConsB true (mNameB 1) (mPure []))) (mPure []))))) (mPure [])))))
  sCont) sNext)
  (sSeq (sAsg 6 (mCallF sem__law_draw [some 0, none] (mHas 0 (mConsO (mCall (f1 lenD) (mConsB true (mNameB 3) (mPure []))) (mPure [])))))
  (sSeq (sPar 7 8 (mConsO (mMap O.sh (mBind (mSubN 4 (mNameV 6)) asSh)) (mConsO (mLst (mPure [])) (mPure []))))
  (sSeq (sFor (mBind (mCons (mMap O.toD (mOpS addD (mMap O.sh (mPure (.int 1))) (mMap (fun o => ((none : Option Nat), o)) (mCallF sem__law_draw [some 0, none] (mHas 0 (mConsO (mMap O.sh (mPure (.int 3))) (mPure []))))))) (mPure [])) rng1) (bName 9)
  turnS)
  (sIf (mBl (mOpN 8 neO (mMap (fun o => ((none : Option Nat), o)) (mLst (mPure []))))) (sApp 3 (mTup (mCons (mPure (.str "chain")) (mCons (mNameV 6) (mCons (mMap O.toD (mCall (f1 tupleD) (mConsB true (mNameB 8) (mPure [])))) (mPure [])))))) sNext))))))
theorem lap_step {k n : Nat} {p : O} {row : List (List Int)} {ls : List Ln} {x4 x5 x6 x7 x8 x9 x10 x11 x12 : Option O} (hp : PenOk k p) (hr : ∀ c ∈ row, Cl 6 c) (hr1 : 1 ≤ row.length) (hr2 : row.length ≤ 20) (hls : Ls row ls) (hl1 : 1 ≤ ls.length) (hl2 : ls.length ≤ 15) (hk : k ≤ 800000000) :
    ∃ (p' : O) (ls' : List Ln) (y4 y5 y6 y7 y8 y9 y10 y11 y12 : Option O), (lapS (lenv4 p row n ls x4 x5 x6 x7 x8 x9 x10 x11 x12) = .next (lenv4 p' row n ls' y4 y5 y6 y7 y8 y9 y10 y11 y12) ∨ lapS (lenv4 p row n ls x4 x5 x6 x7 x8 x9 x10 x11 x12) = .cont (lenv4 p' row n ls' y4 y5 y6 y7 y8 y9 y10 y11 y12)) ∧ PenOk (k + 10) p' ∧ Ls row ls' ∧ 1 ≤ ls'.length ∧ ls'.length ≤ ls.length + 1 := by
  obtain ⟨out, hout⟩ := hls.ev
  have hol := linesC_len hout
  simp only [List.length_nil, Nat.zero_add] at hol
  have hoc : ∀ d ∈ out, Cl 6 d := linesC_cl hr (by simp) hout
  have llc := llc_spec (ro := .sh (.tup (row.map lits))) (.tup _) hr hls.ok (by omega) hout
  have tu : tupleD (.lst (ls.map Ln.d)) = some (.sh (.tup (ls.map Ln.d))) := rfl
  have s1 : sAsg 4 (mCallF sem__law_line_clauses [some 1, none] (mHas 1 (mConsO (mCall (f1 tupleD) (mConsB true (mNameB 3) (mPure []))) (mPure [])))) (lenv4 p row n ls x4 x5 x6 x7 x8 x9 x10 x11 x12) = .next (lenv p row n ls out x5 x6 x7 x8 x9 x10 x11 x12) := by
    unfold lenv4 lenv
    simp only [mAndT, mOrT, mBl, mOpS, mOpN, mBind, mMap, mPure, mSubN, mSub, asSh, mCall, f1, f2, mConsB, mNameB, mNameV, mNameM, DL.intD, liftB, liftI, toD_sh, toD_lst, List.getElem?_cons_zero, List.getElem?_cons_succ, List.map_cons, List.map_nil, pen_cells, pen_at, pen_digits, pen_count, pen_fold, put_at, put_digits, put_count, put_fold, List.set_cons_zero, List.set_cons_succ, sPut, sBind, sAsg, isSh, Bool.false_or, Bool.true_or, if_true, if_false, Bool.false_eq_true, reduceIte, subI, mCallF, mHas, mConsO, DL.fill, putBack, slotSh_s, slotSh_sh, slotSh_ct, List.tail_cons, List.head?_cons, Option.join_some, tu, llc]
  obtain ⟨r, p1, er, hr0, hr3, hp1⟩ := draw_spec (many := 3) hp (by decide) (lt512 (by decide) (by decide)) (by omega)
  have ll : lenD (.lst (ls.map Ln.d)) = some (.sh (.int (ls.length : Int))) := by
    show some (O.sh (.int ((ls.map Ln.d).length : Int))) = _
    rw [List.length_map]
  have lr : lenD (.tup (row.map lits)) = some (.sh (.int (row.length : Int))) := by
    show some (O.sh (.int ((row.map lits).length : Int))) = _
    rw [List.length_map]
  have tst : (mOrT (mBl (mOpS eqO (mCallF sem__law_draw [some 0, none] (mHas 0 (mConsO (mMap O.sh (mPure (.int 3))) (mPure [])))) (mMap (fun d => ((none : Option Nat), O.sh d)) (mPure (.int 0))))) (mBl (mOpS (liftB fun i j => decide (i < j)) (mCall (f1 lenD) (mConsB true (mNameB 3) (mPure []))) (mMap (fun d => ((none : Option Nat), O.sh d)) (mPure (.int 3)))))) (lenv p row n ls out x5 x6 x7 x8 x9 x10 x11 x12) = .ok (r == 0 || decide ((ls.length : Int) < 3)) (lenv p1 row n ls out x5 x6 x7 x8 x9 x10 x11 x12) := by
    unfold lenv
    cases hq : (r == 0) with
    | true => simp only [mAndT, mOrT, mBl, mOpS, mOpN, mBind, mMap, mPure, mSubN, mSub, asSh, mCall, f1, f2, mConsB, mNameB, mNameV, mNameM, DL.intD, liftB, liftI, toD_sh, toD_lst, List.getElem?_cons_zero, List.getElem?_cons_succ, List.map_cons, List.map_nil, pen_cells, pen_at, pen_digits, pen_count, pen_fold, put_at, put_digits, put_count, put_fold, List.set_cons_zero, List.set_cons_succ, sPut, sBind, sAsg, isSh, Bool.false_or, Bool.true_or, if_true, if_false, Bool.false_eq_true, reduceIte, subI, mCallF, mHas, mConsO, DL.fill, putBack, slotSh_s, slotSh_sh, slotSh_ct, List.tail_cons, List.head?_cons, Option.join_some, er, pen_slot hp, DL.eq_int, hq, ll]
    | false => simp only [mAndT, mOrT, mBl, mOpS, mOpN, mBind, mMap, mPure, mSubN, mSub, asSh, mCall, f1, f2, mConsB, mNameB, mNameV, mNameM, DL.intD, liftB, liftI, toD_sh, toD_lst, List.getElem?_cons_zero, List.getElem?_cons_succ, List.map_cons, List.map_nil, pen_cells, pen_at, pen_digits, pen_count, pen_fold, put_at, put_digits, put_count, put_fold, List.set_cons_zero, List.set_cons_succ, sPut, sBind, sAsg, isSh, Bool.false_or, Bool.true_or, if_true, if_false, Bool.false_eq_true, reduceIte, subI, mCallF, mHas, mConsO, DL.fill, putBack, slotSh_s, slotSh_sh, slotSh_ct, List.tail_cons, List.head?_cons, Option.join_some, er, pen_slot hp, DL.eq_int, hq, ll]
  cases hq : (r == 0 || decide ((ls.length : Int) < 3)) with
  | true =>
    rw [hq] at tst
    obtain ⟨g, p2, eg, hg0, hg1, hp2⟩ := draw_spec (many := (row.length : Int)) hp1 (by omega) (lt512 (by omega) (by omega)) (by omega)
    have hgl : g.toNat < row.length := by omega
    have eg' : g = ((g.toNat : Nat) : Int) := by omega
    have al : (ls.map Ln.d).length < lim := by rw [List.length_map]; unfold lim; omega
    refine ⟨p2, ls ++ [.given g.toNat], some (.sh (.tup (out.map lits))), x5, x6, x7, x8, x9, x10, x11, x12, .inr ?_, hp2.mono (by omega), hls.snoc (L := .given g.toNat) hout (c := row[g.toNat]) (List.getElem?_eq_getElem hgl : lineC row out (.given g.toNat) = some _) trivial trivial, by simp, by simp⟩
    unfold lapS
    refine w_seq (P := fun o => o = .cont _) s1 ?_
    refine w_seqP (P := fun o => o = .cont _) ?_
    refine w_ifT (P := thenS _ (fun o => o = .cont _)) tst ?_
    refine w_seq (P := thenS _ (fun o => o = .cont _)) (ρ' := lenv4 p2 row n (ls ++ [Ln.given g.toNat]) (some (.sh (.tup (out.map lits)))) x5 x6 x7 x8 x9 x10 x11 x12) ?_ rfl
    have ed : (D.tup [.str "given", .int g]) = (Ln.given g.toNat).d := by
      show _ = D.tup [.str "given", .int ((g.toNat : Nat) : Int)]
      rw [← eg']
    unfold lenv lenv4
    simp only [sApp, mAndT, mOrT, mBl, mOpS, mOpN, mBind, mMap, mPure, mSubN, mSub, asSh, mCall, f1, f2, mConsB, mNameB, mNameV, mNameM, DL.intD, liftB, liftI, toD_sh, toD_lst, List.getElem?_cons_zero, List.getElem?_cons_succ, List.map_cons, List.map_nil, pen_cells, pen_at, pen_digits, pen_count, pen_fold, put_at, put_digits, put_count, put_fold, List.set_cons_zero, List.set_cons_succ, sPut, sBind, sAsg, isSh, Bool.false_or, Bool.true_or, if_true, if_false, Bool.false_eq_true, reduceIte, subI, mCallF, mHas, mConsO, DL.fill, putBack, slotSh_s, slotSh_sh, slotSh_ct, List.tail_cons, List.head?_cons, Option.join_some, mTup, mCons, List.length_cons, List.length_nil, show (0 + 1 + 1 ≤ lim) = True from eq_true (by decide), lr, eg, pen_slot hp1, al, ed, List.map_append]
  | false =>
    rw [hq] at tst
    obtain ⟨g, p2, eg, hg0, hg1, hp2⟩ := draw_spec (many := (ls.length : Int)) hp1 (by omega) (lt512 (by omega) (by omega)) (by omega)
    have hgl : g.toNat < out.length := by omega
    have eg' : g = ((g.toNat : Nat) : Int) := by omega
    have h0 : out[g.toNat]? = some out[g.toNat] := List.getElem?_eq_getElem hgl
    obtain ⟨t, p3, et, ht0, ht1, hp3⟩ := draw_spec (many := 3) hp2 (by decide) (lt512 (by decide) (by decide)) (by omega)
    have et' : 1 + t = ((1 + t.toNat : Nat) : Int) := by omega
    have it0 : (out.map lits)[g.toNat]? = some (lits out[g.toNat]) := by rw [List.getElem?_map, h0]; rfl
    have itg : ∀ {z : Option Nat}, itemOf (z, .sh (.tup (out.map lits))) (.int g) = some (none, .sh (lits out[g.toNat])) := fun {z} => item_tup hg0 it0
    have s3 : sAsg 6 (mCallF sem__law_draw [some 0, none] (mHas 0 (mConsO (mCall (f1 lenD) (mConsB true (mNameB 3) (mPure []))) (mPure [])))) (lenv p1 row n ls out x5 x6 x7 x8 x9 x10 x11 x12) = .next (lenv p2 row n ls out x5 (some (.sh (.int g))) x7 x8 x9 x10 x11 x12) := by
      unfold lenv
      simp only [mAndT, mOrT, mBl, mOpS, mOpN, mBind, mMap, mPure, mSubN, mSub, asSh, mCall, f1, f2, mConsB, mNameB, mNameV, mNameM, DL.intD, liftB, liftI, toD_sh, toD_lst, List.getElem?_cons_zero, List.getElem?_cons_succ, List.map_cons, List.map_nil, pen_cells, pen_at, pen_digits, pen_count, pen_fold, put_at, put_digits, put_count, put_fold, List.set_cons_zero, List.set_cons_succ, sPut, sBind, sAsg, isSh, Bool.false_or, Bool.true_or, if_true, if_false, Bool.false_eq_true, reduceIte, subI, mCallF, mHas, mConsO, DL.fill, putBack, slotSh_s, slotSh_sh, slotSh_ct, List.tail_cons, List.head?_cons, Option.join_some, ll, eg, pen_slot hp1]
    have s4 : sPar 7 8 (mConsO (mMap O.sh (mBind (mSubN 4 (mNameV 6)) asSh)) (mConsO (mLst (mPure [])) (mPure []))) (lenv p2 row n ls out x5 (some (.sh (.int g))) x7 x8 x9 x10 x11 x12) = .next (lenv p2 row n ls out x5 (some (.sh (.int g))) (some (.sh (lits out[g.toNat]))) (some (.lst (([] : List (Nat × Nat)).map stepD))) x9 x10 x11 x12) := by
      unfold lenv sPar
      simp only [mAndT, mOrT, mBl, mOpS, mOpN, mBind, mMap, mPure, mSubN, mSub, asSh, mCall, f1, f2, mConsB, mNameB, mNameV, mNameM, DL.intD, liftB, liftI, toD_sh, toD_lst, List.getElem?_cons_zero, List.getElem?_cons_succ, List.map_cons, List.map_nil, pen_cells, pen_at, pen_digits, pen_count, pen_fold, put_at, put_digits, put_count, put_fold, List.set_cons_zero, List.set_cons_succ, sPut, sBind, sAsg, isSh, Bool.false_or, Bool.true_or, if_true, if_false, Bool.false_eq_true, reduceIte, subI, mCallF, mHas, mConsO, DL.fill, putBack, slotSh_s, slotSh_sh, slotSh_ct, List.tail_cons, List.head?_cons, Option.join_some, itg, mLst, List.length_nil, show (0 ≤ lim) = True from eq_true (Nat.zero_le _)]
    have src : (mBind (mCons (mMap O.toD (mOpS addD (mMap O.sh (mPure (.int 1))) (mMap (fun o => ((none : Option Nat), o)) (mCallF sem__law_draw [some 0, none] (mHas 0 (mConsO (mMap O.sh (mPure (.int 3))) (mPure []))))))) (mPure [])) rng1) (lenv p2 row n ls out x5 (some (.sh (.int g))) (some (.sh (lits out[g.toNat]))) (some (.lst (([] : List (Nat × Nat)).map stepD))) x9 x10 x11 x12) = .ok (rngD 0 (1 + t.toNat)) (lenv p3 row n ls out x5 (some (.sh (.int g))) (some (.sh (lits out[g.toNat]))) (some (.lst (([] : List (Nat × Nat)).map stepD))) x9 x10 x11 x12) := by
      refine (mBind_ok (a := [D.int ((1 + t.toNat : Nat) : Int)]) (ρ' := lenv p3 row n ls out x5 (some (.sh (.int g))) (some (.sh (lits out[g.toNat]))) (some (.lst (([] : List (Nat × Nat)).map stepD))) x9 x10 x11 x12) ?_).trans (rng1_ok (by omega))
      rw [← et']
      unfold lenv
      simp only [mAndT, mOrT, mBl, mOpS, mOpN, mBind, mMap, mPure, mSubN, mSub, asSh, mCall, f1, f2, mConsB, mNameB, mNameV, mNameM, lenD, DL.intD, liftB, liftI, toD_sh, toD_lst, List.getElem?_cons_zero, List.getElem?_cons_succ, List.map_cons, List.map_nil, pen_cells, pen_at, pen_digits, pen_count, pen_fold, put_at, put_digits, put_count, put_fold, List.set_cons_zero, List.set_cons_succ, sPut, sBind, sAsg, isSh, Bool.false_or, Bool.true_or, if_true, if_false, Bool.false_eq_true, reduceIte, addD, subI, mCallF, mHas, mConsO, DL.fill, putBack, slotSh_s, slotSh_sh, slotSh_ct, List.tail_cons, List.head?_cons, Option.join_some, mCons, et, pen_slot hp2]
    have fin : NextI (fun ρ => ∃ (p' : O) (ls' : List Ln) (y4 y5 y6 y7 y8 y9 y10 y11 y12 : Option O), ρ = lenv4 p' row n ls' y4 y5 y6 y7 y8 y9 y10 y11 y12 ∧ PenOk (k + 10) p' ∧ Ls row ls' ∧ 1 ≤ ls'.length ∧ ls'.length ≤ ls.length + 1) (lapS (lenv4 p row n ls x4 x5 x6 x7 x8 x9 x10 x11 x12)) := by
      unfold lapS
      refine w_seq s1 ?_
      refine w_seq (w_ifF (P := fun o => o = .next (lenv p1 row n ls out x5 x6 x7 x8 x9 x10 x11 x12)) tst rfl) ?_
      refine w_seq s3 ?_
      refine w_seq s4 ?_
      refine w_seqI (fun ρ => ∃ (p' : O) (c : List Int) (st : List (Nat × Nat)) (y9 y10 y11 y12 : Option O), ρ = lenv p' row n ls out x5 (some (.sh (.int g))) (some (.sh (lits c))) (some (.lst (st.map stepD))) y9 y10 y11 y12 ∧ Tn2 (k + 10) out out[g.toNat] c st p' ∧ st.length ≤ 3) ?_ ?_
      · refine w_for (P := NextI _) (fun i ρ => i ≤ 3 ∧ ∃ (p' : O) (c : List Int) (st : List (Nat × Nat)) (y9 y10 y11 y12 : Option O), ρ = lenv p' row n ls out x5 (some (.sh (.int g))) (some (.sh (lits c))) (some (.lst (st.map stepD))) y9 y10 y11 y12 ∧ Tn2 (k + 3 + i) out out[g.toNat] c st p' ∧ st.length ≤ i) src ⟨by decide, p3, out[g.toNat], [], x9, x10, x11, x12, rfl, ⟨hp3, hoc _ (List.getElem_mem hgl), rfl, by simp⟩, by simp⟩ ?_ ?_
        · rintro i d ρ hd ⟨hi, p', c, st, y9, y10, y11, y12, rfl, T, hst⟩
          have hil : i < 1 + t.toNat := by have := (List.getElem?_eq_some_iff.mp hd).1; rw [rngD_len] at this; exact this
          obtain ⟨ρ2, e2, p'', c', st', z10, z11, z12, rfl, T', hst'⟩ := turn_step (n := n) (row := row) (ls := ls) (x5 := x5) (x6 := some (.sh (.int g))) (x9 := some (.sh d)) (x10 := y10) (x11 := y11) (x12 := y12) T hoc hol.symm (by omega) (by omega) (by omega)
          exact ⟨lenv p' row n ls out x5 (some (.sh (.int g))) (some (.sh (lits c))) (some (.lst (st.map stepD))) (some (.sh d)) y10 y11 y12, rfl, .inl ⟨_, .inl e2, by omega, p'', c', st', _, z10, z11, z12, rfl, T', by omega⟩⟩
        · rintro ρ ⟨hi, p', c, st, y9, y10, y11, y12, rfl, T, hst⟩
          rw [rngD_len] at hst T
          exact nextI ⟨p', c, st, y9, y10, y11, y12, rfl, ⟨T.pen.mono (by omega), T.cl, T.go, T.ok⟩, by omega⟩
      · rintro _ ⟨p', c, st, y9, y10, y11, y12, rfl, T, hst⟩
        have sw : Sh 2 (.lst (st.map stepD)) := sh_lst fun d hd => by
          obtain ⟨q, _, rfl⟩ := List.mem_map.mp hd
          exact sh_tup (n := 0) fun d hd => by
            rcases List.mem_cons.mp hd with rfl | hd
            · exact sh_int
            · rw [List.mem_singleton.mp hd]; exact sh_int
        have ne : neO (.lst (st.map stepD)) (.lst []) = some (.sh (.bl (!(st.map stepD).isEmpty))) := neO_nilL sw (by decide)
        have tst2 : mBl (mOpN 8 neO (mMap (fun o => ((none : Option Nat), o)) (mLst (mPure [])))) (lenv p' row n ls out x5 (some (.sh (.int g))) (some (.sh (lits c))) (some (.lst (st.map stepD))) y9 y10 y11 y12) = .ok (!(st.map stepD).isEmpty) (lenv p' row n ls out x5 (some (.sh (.int g))) (some (.sh (lits c))) (some (.lst (st.map stepD))) y9 y10 y11 y12) := mBl_ok (mOpN_ok rfl nil_ok rfl ne)
        cases hq2 : (st.map stepD).isEmpty with
        | true =>
          rw [hq2] at tst2
          exact w_ifF tst2 (nextI ⟨p', ls, some (.sh (.tup (out.map lits))), x5, some (.sh (.int g)), some (.sh (lits c)), some (.lst (st.map stepD)), y9, y10, y11, y12, rfl, T.pen, hls, hl1, by omega⟩)
        | false =>
          rw [hq2] at tst2
          refine w_ifT tst2 ?_
          have al : (ls.map Ln.d).length < lim := by rw [List.length_map]; unfold lim; omega
          have tu2 : tupleD (.lst (st.map stepD)) = some (.sh (.tup (st.map stepD))) := rfl
          have ed : (D.tup [.str "chain", .int g, .tup (st.map stepD)]) = (Ln.chain g.toNat st).d := by
            show _ = D.tup [.str "chain", .int ((g.toNat : Nat) : Int), .tup (st.map stepD)]
            rw [← eg']
          have hst0 : st ≠ [] := by intro z; rw [z] at hq2; cases hq2
          have hlc : lineC row out (.chain g.toNat st) = some c := by
            unfold lineC
            simp only [h0]
            exact T.go
          refine ⟨lenv4 p' row n (ls ++ [.chain g.toNat st]) (some (.sh (.tup (out.map lits)))) x5 (some (.sh (.int g))) (some (.sh (lits c))) (some (.lst (st.map stepD))) y9 y10 y11 y12, ?_, p', ls ++ [.chain g.toNat st], _, _, _, _, _, _, _, _, _, rfl, T.pen, hls.snoc (L := .chain g.toNat st) hout hlc ⟨hst0, T.ok⟩ (show st.length ≤ 1000 by omega), by simp, by simp⟩
          unfold lenv lenv4
          simp only [sApp, mAndT, mOrT, mBl, mOpS, mOpN, mBind, mMap, mPure, mSubN, mSub, asSh, mCall, f1, f2, mConsB, mNameB, mNameV, mNameM, DL.intD, liftB, liftI, toD_sh, toD_lst, List.getElem?_cons_zero, List.getElem?_cons_succ, List.map_cons, List.map_nil, pen_cells, pen_at, pen_digits, pen_count, pen_fold, put_at, put_digits, put_count, put_fold, List.set_cons_zero, List.set_cons_succ, sPut, sBind, sAsg, isSh, Bool.false_or, Bool.true_or, if_true, if_false, Bool.false_eq_true, reduceIte, subI, mCallF, mHas, mConsO, DL.fill, putBack, slotSh_s, slotSh_sh, slotSh_ct, List.tail_cons, List.head?_cons, Option.join_some, mTup, mCons, List.length_cons, List.length_nil, show (0 + 1 + 1 + 1 ≤ lim) = True from eq_true (by decide), tu2, al, ed, List.map_append]
    obtain ⟨ρ, e, p', ls', y4, y5, y6, y7, y8, y9, y10, y11, y12, rfl, hh⟩ := fin
    exact ⟨p', ls', y4, y5, y6, y7, y8, y9, y10, y11, y12, .inl e, hh⟩
end K24

end

section
set_option Elab.async false
set_option linter.all false
set_option maxRecDepth 100000
namespace K24
open PySem L2 RZ DL PyProof.Rows
theorem drawn_lines_spec {k many : Nat} {p : O} {row : List (List Int)} (hp : PenOk k p) (hr : ∀ c ∈ row, Cl 6 c) (hr1 : 1 ≤ row.length) (hr2 : row.length ≤ 20) (hm : many ≤ 10) (hk : k ≤ 700000000) :
    ∃ (p' : O) (ls : List Ln), sem__law_drawn_lines [p, .sh (.tup (row.map lits)), .sh (.int (many : Int))] = .ok (.sh (.tup (ls.map Ln.d))) [some p', some (.sh (.tup (row.map lits))), some (.sh (.int (many : Int)))] ∧ PenOk (k + 200) p' ∧ Ls row ls ∧ ls.length ≤ 20 := by
  suffices h : RetI (fun o ρ => ∃ (p' : O) (ls : List Ln) (y4 y5 y6 y7 y8 y9 y10 y11 y12 : Option O), o = .sh (.tup (ls.map Ln.d)) ∧ ρ = lenv4 p' row many ls y4 y5 y6 y7 y8 y9 y10 y11 y12 ∧ PenOk (k + 200) p' ∧ Ls row ls ∧ ls.length ≤ 20) (d__law_drawn_lines [some p, some (.sh (.tup (row.map lits))), some (.sh (.int (many : Int))), none, none, none, none, none, none, none, none, none, none, none, none]) by
    obtain ⟨_, _, e, p', ls, y4, y5, y6, y7, y8, y9, y10, y11, y12, rfl, rfl, h2, h3, h4⟩ := h
    have e' := sem_ret (N := 15) (n := 3) (mu := [0, 1, 2]) (m := d__law_drawn_lines) (os := [p, .sh (.tup (row.map lits)), .sh (.int (many : Int))]) rfl e
    exact ⟨p', ls, e', h2, h3, h4⟩
  obtain ⟨g, p1, eg, hg0, hg1, hp1⟩ := draw_spec (many := (row.length : Int)) hp (by omega) (lt512 (by omega) (by omega)) (by omega)
  have hgl : g.toNat < row.length := by omega
  have eg' : g = ((g.toNat : Nat) : Int) := by omega
  have lr : lenD (.tup (row.map lits)) = some (.sh (.int (row.length : Int))) := by
    show some (O.sh (.int ((row.map lits).length : Int))) = _
    rw [List.length_map]
  have ed : (D.tup [.str "given", .int g]) = (Ln.given g.toNat).d := by
    show _ = D.tup [.str "given", .int ((g.toNat : Nat) : Int)]
    rw [← eg']
  have hl0 : Ls row ([] : List Ln) := ⟨⟨[], rfl⟩, by simp, by simp⟩
  have hl1 : Ls row [Ln.given g.toNat] := hl0.snoc (out := []) (L := .given g.toNat) rfl (c := row[g.toNat]) (List.getElem?_eq_getElem hgl : lineC row [] (.given g.toNat) = some _) trivial trivial
  unfold d__law_drawn_lines
  refine w_seq (ρ' := lenv4 p1 row many [Ln.given g.toNat] (some (.lst [])) none none none none none none none none) ?_ ?_
  · unfold lenv4 sPar
    simp only [mAndT, mOrT, mBl, mOpS, mOpN, mBind, mMap, mPure, mSubN, mSub, asSh, mCall, f1, f2, mConsB, mNameB, mNameV, mNameM, DL.intD, liftB, liftI, toD_sh, toD_lst, List.getElem?_cons_zero, List.getElem?_cons_succ, List.map_cons, List.map_nil, pen_cells, pen_at, pen_digits, pen_count, pen_fold, put_at, put_digits, put_count, put_fold, List.set_cons_zero, List.set_cons_succ, sPut, sBind, sAsg, isSh, Bool.false_or, Bool.true_or, if_true, if_false, Bool.false_eq_true, reduceIte, subI, mCallF, mHas, mConsO, DL.fill, putBack, slotSh_s, slotSh_sh, slotSh_ct, List.tail_cons, List.head?_cons, Option.join_some, mLst, mTup, mCons, List.length_cons, List.length_nil, show (0 + 1 + 1 ≤ lim) = True from eq_true (by decide), show (0 + 1 ≤ lim) = True from eq_true (by decide), show (0 ≤ lim) = True from eq_true (by decide), lr, eg, pen_slot hp, ed]
  refine w_seqI (fun ρ => ∃ (p' : O) (ls : List Ln) (y4 y5 y6 y7 y8 y9 y10 y11 y12 : Option O), ρ = lenv4 p' row many ls y4 y5 y6 y7 y8 y9 y10 y11 y12 ∧ PenOk (k + 200) p' ∧ Ls row ls ∧ ls.length ≤ 20) ?_ ?_
  · have src : (mBind (mCons (mNameV 2) (mPure [])) rng1) (lenv4 p1 row many [Ln.given g.toNat] (some (.lst [])) none none none none none none none none) = .ok (rngD 0 many) (lenv4 p1 row many [Ln.given g.toNat] (some (.lst [])) none none none none none none none none) :=
      (mBind_ok (a := [D.int (many : Int)]) (ρ' := lenv4 p1 row many [Ln.given g.toNat] (some (.lst [])) none none none none none none none none) rfl).trans (rng1_ok (by omega))
    refine w_for (P := NextI _) (fun i ρ => i ≤ many ∧ ∃ (p' : O) (ls : List Ln) (y4 y5 y6 y7 y8 y9 y10 y11 y12 : Option O), ρ = lenv4 p' row many ls y4 y5 y6 y7 y8 y9 y10 y11 y12 ∧ PenOk (k + 1 + 10 * i) p' ∧ Ls row ls ∧ 1 ≤ ls.length ∧ ls.length ≤ i + 1) src ⟨Nat.zero_le _, p1, [Ln.given g.toNat], _, _, _, _, _, _, _, _, _, rfl, hp1, hl1, by simp, by simp⟩ ?_ ?_
    · rintro i d ρ hd ⟨hi, p', ls, y4, y5, y6, y7, y8, y9, y10, y11, y12, rfl, hp', hls, hlen1, hlen2⟩
      have hil : i < many := by have := (List.getElem?_eq_some_iff.mp hd).1; rw [rngD_len] at this; exact this
      obtain ⟨p'', ls', z4, z5, z6, z7, z8, z9, z10, z11, z12, hst, hp'', hls', h1', h2'⟩ := lap_step (n := many) (x4 := y4) (x5 := some (.sh d)) (x6 := y6) (x7 := y7) (x8 := y8) (x9 := y9) (x10 := y10) (x11 := y11) (x12 := y12) hp' hr hr1 hr2 hls hlen1 (by omega) (by omega)
      exact ⟨lenv4 p' row many ls y4 (some (.sh d)) y6 y7 y8 y9 y10 y11 y12, rfl, .inl ⟨_, hst, by omega, p'', ls', z4, z5, z6, z7, z8, z9, z10, z11, z12, rfl, hp''.mono (by omega), hls', h1', by omega⟩⟩
    · rintro ρ ⟨hi, p', ls, y4, y5, y6, y7, y8, y9, y10, y11, y12, rfl, hp', hls, hlen1, hlen2⟩
      rw [rngD_len] at hlen2 hp'
      exact nextI ⟨p', ls, y4, y5, y6, y7, y8, y9, y10, y11, y12, rfl, hp'.mono (by omega), hls, by omega⟩
  · rintro _ ⟨p', ls, y4, y5, y6, y7, y8, y9, y10, y11, y12, rfl, hp', hls, hlen⟩
    have tu : tupleD (.lst (ls.map Ln.d)) = some (.sh (.tup (ls.map Ln.d))) := rfl
    refine ⟨.sh (.tup (ls.map Ln.d)), lenv4 p' row many ls y4 y5 y6 y7 y8 y9 y10 y11 y12, ?_, p', ls, y4, y5, y6, y7, y8, y9, y10, y11, y12, rfl, rfl, hp', hls, hlen⟩
    unfold lenv4
    simp only [sRet, mAndT, mOrT, mBl, mOpS, mOpN, mBind, mMap, mPure, mSubN, mSub, asSh, mCall, f1, f2, mConsB, mNameB, mNameV, mNameM, DL.intD, liftB, liftI, toD_sh, toD_lst, List.getElem?_cons_zero, List.getElem?_cons_succ, List.map_cons, List.map_nil, pen_cells, pen_at, pen_digits, pen_count, pen_fold, put_at, put_digits, put_count, put_fold, List.set_cons_zero, List.set_cons_succ, sPut, sBind, sAsg, isSh, Bool.false_or, Bool.true_or, if_true, if_false, Bool.false_eq_true, reduceIte, subI, mCallF, mHas, mConsO, DL.fill, putBack, slotSh_s, slotSh_sh, slotSh_ct, List.tail_cons, List.head?_cons, Option.join_some, tu]
end K24

end

section
set_option Elab.async false
set_option linter.all false
set_option maxRecDepth 100000
namespace K24
open PySem L2 RZ DL PyProof.Rows
theorem Cl.mono {m n : Nat} {c : List Int} (h : Cl m c) (hm : m ≤ n) : Cl n c :=
  ⟨h.pw, fun l hl => by have := h.rg l hl; omega⟩
theorem fin_comm {f g : List Int} (h : ∀ l, l ∈ f ↔ l ∈ g) : fin f = fin g := by
  have e1 : (f.any fun n => decide (-n ∈ f)) = (g.any fun n => decide (-n ∈ g)) := by
    rw [Bool.eq_iff_iff, List.any_eq_true, List.any_eq_true]
    constructor
    · rintro ⟨n, h1, h2⟩; exact ⟨n, (h n).mp h1, by simpa [h] using h2⟩
    · rintro ⟨n, h1, h2⟩; exact ⟨n, (h n).mpr h1, by simpa [h] using h2⟩
  have e2 : sortU f = sortU g := strict_eq (sortU_pw f) (sortU_pw g) fun k => by rw [mem_sortU, mem_sortU]; exact h k
  unfold fin
  rw [e1, e2]
theorem abs_neg (l : Int) : absZ (-l) = absZ l := by unfold absZ; split <;> split <;> omega
theorem pw_inj : ∀ {c : List Int}, (c.Pairwise fun i j => absZ i < absZ j) → ∀ x ∈ c, ∀ y ∈ c, absZ x = absZ y → x = y
  | [], _, x, hx, _, _ => by simp at hx
  | z :: c, h, x, hx, y, hy => fun e => by
    rw [List.pairwise_cons] at h
    rcases List.mem_cons.mp hx with ex | hx1 <;> rcases List.mem_cons.mp hy with ey | hy1
    · rw [ex, ey]
    · have := h.1 y hy1; rw [ex] at e; omega
    · have := h.1 x hx1; rw [ey] at e; omega
    · exact pw_inj h.2 x hx1 y hy1 e
theorem Cl.no {m : Nat} {c : List Int} (h : Cl m c) {l : Int} (h1 : l ∈ c) (h2 : -l ∈ c) : False := by
  have e := pw_inj h.pw _ h1 _ h2 (abs_neg l).symm
  have := (h.rg l h1).1
  unfold absZ at this
  split at this <;> omega
theorem res_comm {m : Nat} {a b : List Int} {v : Int} (ha : Cl m a) (hb : Cl m b) : res b a v = res a b v := by
  have e1 : fin (without b v ++ without a (-v)) = fin (without a (-v) ++ without b v) := fin_comm fun l => by rw [List.mem_append, List.mem_append, or_comm]
  have e2 : fin (without b (-v) ++ without a v) = fin (without a v ++ without b (-v)) := fin_comm fun l => by rw [List.mem_append, List.mem_append, or_comm]
  unfold res
  by_cases h1 : v ∈ b ∧ -v ∈ a
  · rw [if_pos h1, if_neg (fun z => hb.no h1.1 z.2), if_pos ⟨h1.2, h1.1⟩, e1]
  · rw [if_neg h1]
    by_cases h2 : v ∈ a ∧ -v ∈ b
    · rw [if_pos h2, if_pos ⟨h2.2, h2.1⟩, e2]
    · rw [if_neg h2, if_neg (fun z => h2 ⟨z.2, z.1⟩), if_neg (fun z => h1 ⟨z.2, z.1⟩)]
theorem sh_lits {c : List Int} : Sh 1 (lits c) := sh_intsT
theorem sh_optD {r : Option (List Int)} : Sh 1 (optD r) := by
  cases r with
  | none => exact sh_non
  | some c => exact sh_lits
theorem sh_rows {rs : List (List Int)} : Sh 2 (.tup (rs.map lits)) := sh_tup fun d hd => by
  obtain ⟨c, _, rfl⟩ := List.mem_map.mp hd
  exact sh_lits
def tenv (ns : List Int) (p : O) (many : Nat) (x3 x4 x5 x6 x7 x8 x9 x10 : Option O) : DL.Env :=
  [some (.sh (.fz (ns.map D.int))), some p, some (.sh (.int (many : Int))), x3, x4, x5, x6, x7, x8, x9, x10, none]
def pairS : MS := (sSeq (sIf (mBl (mOpS neO (mCallF sem_resolvent [some 4, some 5, some 6] (mHas 4 (mHas 5 (mHas 6 (mPure []))))) (mMap (fun o => ((none : Option Nat), o)) (mCallF sem__law_resolved [some 4, some 5, some 6] (mHas 4 (mHas 5 (mHas 6 (mPure [])))))))) (sRet (mMap O.sh (mPure (.bl false)))) sNext)
  (sIf (mBl (mOpS neO (mCallF sem_resolvent [some 5, some 4, some 6] (mHas 5 (mHas 4 (mHas 6 (mPure []))))) (mMap (fun o => ((none : Option Nat), o)) (mCallF sem__law_resolved [some 4, some 5, some 6] (mHas 4 (mHas 5 (mHas 6 (mPure [])))))))) (sRet (mMap O.sh (mPure (.bl false)))) sNext))
theorem pair_step {ns : List Int} {p : O} {many : Nat} {x3 x7 x8 x9 x10 : Option O} {a b : List Int} {v : Int} (ha : Cl 6 a) (hb : Cl 6 b) :
    pairS (tenv ns p many x3 (some (.sh (lits a))) (some (.sh (lits b))) (some (.sh (.int v))) x7 x8 x9 x10) = .next (tenv ns p many x3 (some (.sh (lits a))) (some (.sh (lits b))) (some (.sh (.int v))) x7 x8 x9 x10) := by
  have la := ha.len
  have lb := hb.len
  obtain ⟨f1', e1⟩ := resolvent_spec (a := a) (b := b) (v := v) (by omega)
  obtain ⟨f2', e2⟩ := resolvent_spec (a := b) (b := a) (v := v) (by omega)
  obtain ⟨f3', e3⟩ := resolved_spec (a := a) (b := b) (v := v) (by omega)
  rw [res_comm ha hb] at e2
  have ne : neO (optD (res a b v)) (optD (res a b v)) = some (.sh (.bl false)) := neO_self sh_optD (by decide)
  have t1 : (mBl (mOpS neO (mCallF sem_resolvent [some 4, some 5, some 6] (mHas 4 (mHas 5 (mHas 6 (mPure []))))) (mMap (fun o => ((none : Option Nat), o)) (mCallF sem__law_resolved [some 4, some 5, some 6] (mHas 4 (mHas 5 (mHas 6 (mPure [])))))))) (tenv ns p many x3 (some (.sh (lits a))) (some (.sh (lits b))) (some (.sh (.int v))) x7 x8 x9 x10) = .ok false (tenv ns p many x3 (some (.sh (lits a))) (some (.sh (lits b))) (some (.sh (.int v))) x7 x8 x9 x10) := by
    unfold tenv
    simp only [mAndT, mOrT, mBl, mOpS, mOpN, mBind, mMap, mPure, mSubN, mSub, asSh, mCall, f1, f2, mConsB, mNameB, mNameV, mNameM, DL.intD, liftB, liftI, toD_sh, toD_lst, List.getElem?_cons_zero, List.getElem?_cons_succ, List.map_cons, List.map_nil, pen_cells, pen_at, pen_digits, pen_count, pen_fold, put_at, put_digits, put_count, put_fold, List.set_cons_zero, List.set_cons_succ, sPut, sBind, sAsg, isSh, Bool.false_or, Bool.true_or, if_true, if_false, Bool.false_eq_true, reduceIte, subI, mCallF, mHas, mConsO, DL.fill, putBack, slotSh_s, slotSh_sh, slotSh_ct, List.tail_cons, List.head?_cons, Option.join_some, e1, e3, ne]
  have t2 : (mBl (mOpS neO (mCallF sem_resolvent [some 5, some 4, some 6] (mHas 5 (mHas 4 (mHas 6 (mPure []))))) (mMap (fun o => ((none : Option Nat), o)) (mCallF sem__law_resolved [some 4, some 5, some 6] (mHas 4 (mHas 5 (mHas 6 (mPure [])))))))) (tenv ns p many x3 (some (.sh (lits a))) (some (.sh (lits b))) (some (.sh (.int v))) x7 x8 x9 x10) = .ok false (tenv ns p many x3 (some (.sh (lits a))) (some (.sh (lits b))) (some (.sh (.int v))) x7 x8 x9 x10) := by
    unfold tenv
    simp only [mAndT, mOrT, mBl, mOpS, mOpN, mBind, mMap, mPure, mSubN, mSub, asSh, mCall, f1, f2, mConsB, mNameB, mNameV, mNameM, DL.intD, liftB, liftI, toD_sh, toD_lst, List.getElem?_cons_zero, List.getElem?_cons_succ, List.map_cons, List.map_nil, pen_cells, pen_at, pen_digits, pen_count, pen_fold, put_at, put_digits, put_count, put_fold, List.set_cons_zero, List.set_cons_succ, sPut, sBind, sAsg, isSh, Bool.false_or, Bool.true_or, if_true, if_false, Bool.false_eq_true, reduceIte, subI, mCallF, mHas, mConsO, DL.fill, putBack, slotSh_s, slotSh_sh, slotSh_ct, List.tail_cons, List.head?_cons, Option.join_some, e2, e3, ne]
  unfold pairS
  refine w_seq (P := fun o => o = .next _) (w_ifF (P := fun o => o = .next _) t1 rfl) ?_
  exact w_ifF (P := fun o => o = .next _) t2 rfl
end K24

end

section
set_option Elab.async false
set_option linter.all false
set_option maxRecDepth 100000
namespace K24
open PySem L2 RZ DL PyProof.Rows
def lap6S : MS := (sSeq (sPar 4 5 (mConsO (mCallF sem__law_drawn_clause [some 1, some 2, none] (mHas 1 (mHas 2 (mConsO (mMap O.sh (mPure (.int 3))) (mPure []))))) (mConsO (mCallF sem__law_drawn_clause [some 1, some 2, none] (mHas 1 (mHas 2 (mConsO (mMap O.sh (mPure (.int 3))) (mPure []))))) (mPure []))))
  (sFor (mBind (mCons (mPure (.int 1)) (mCons (mMap O.toD (mOpN 2 addD (mMap (fun d => ((none : Option Nat), O.sh d)) (mPure (.int 1))))) (mPure []))) rng2) (bName 6)
  pairS))
theorem lap6_step {k many : Nat} {ns : List Int} {p : O} {x3 x4 x5 x6 x7 x8 x9 x10 : Option O} (hp : PenOk k p) (h1 : 1 ≤ many) (h6 : many ≤ 6) (hk : k ≤ 1000000) :
    NextI (fun ρ => ∃ (p' : O) (y4 y5 y6 : Option O), ρ = tenv ns p' many x3 y4 y5 y6 x7 x8 x9 x10 ∧ PenOk (k + 40) p') (lap6S (tenv ns p many x3 x4 x5 x6 x7 x8 x9 x10)) := by
  obtain ⟨a, p1, e1, ha, hp1⟩ := drawn_spec (most := 3) hp h1 h6 (by omega)
  obtain ⟨b, p2, e2, hb, hp2⟩ := drawn_spec (most := 3) hp1 h1 h6 (by omega)
  have ha6 : Cl 6 a := ha.mono h6
  have hb6 : Cl 6 b := hb.mono h6
  unfold lap6S
  refine w_seq (ρ' := tenv ns p2 many x3 (some (.sh (lits a))) (some (.sh (lits b))) x6 x7 x8 x9 x10) ?_ ?_
  · have gen : ∀ (S : Sem), S [p, .sh (.int (many : Int)), .sh (.int 3)] = .ok (.sh (lits a)) [some p1, some (.sh (.int (many : Int))), some (.sh (.int 3))] → S [p1, .sh (.int (many : Int)), .sh (.int 3)] = .ok (.sh (lits b)) [some p2, some (.sh (.int (many : Int))), some (.sh (.int 3))] → sPar 4 5 (mConsO (mCallF S [some 1, some 2, none] (mHas 1 (mHas 2 (mConsO (mMap O.sh (mPure (.int 3))) (mPure []))))) (mConsO (mCallF S [some 1, some 2, none] (mHas 1 (mHas 2 (mConsO (mMap O.sh (mPure (.int 3))) (mPure []))))) (mPure []))) (tenv ns p many x3 x4 x5 x6 x7 x8 x9 x10) = .next (tenv ns p2 many x3 (some (.sh (lits a))) (some (.sh (lits b))) x6 x7 x8 x9 x10) := fun S e1 e2 => by
      unfold tenv sPar
      simp only [mAndT, mOrT, mBl, mOpS, mOpN, mBind, mMap, mPure, mSubN, mSub, asSh, mCall, f1, f2, mConsB, mNameB, mNameV, mNameM, DL.intD, liftB, liftI, toD_sh, toD_lst, List.getElem?_cons_zero, List.getElem?_cons_succ, List.map_cons, List.map_nil, pen_cells, pen_at, pen_digits, pen_count, pen_fold, put_at, put_digits, put_count, put_fold, List.set_cons_zero, List.set_cons_succ, sPut, sBind, sAsg, isSh, Bool.false_or, Bool.true_or, if_true, if_false, Bool.false_eq_true, reduceIte, subI, mCallF, mHas, mConsO, DL.fill, putBack, slotSh_s, slotSh_sh, slotSh_ct, List.tail_cons, List.head?_cons, Option.join_some, e1, e2, pen_slot hp, pen_slot hp1]
    exact gen _ e1 e2
  · have src : (mBind (mCons (mPure (.int 1)) (mCons (mMap O.toD (mOpN 2 addD (mMap (fun d => ((none : Option Nat), O.sh d)) (mPure (.int 1))))) (mPure []))) rng2) (tenv ns p2 many x3 (some (.sh (lits a))) (some (.sh (lits b))) x6 x7 x8 x9 x10) = .ok (rngD 1 (((many : Int) + 1) - 1).toNat) (tenv ns p2 many x3 (some (.sh (lits a))) (some (.sh (lits b))) x6 x7 x8 x9 x10) :=
      (mBind_ok (a := [D.int 1, D.int ((many : Int) + 1)]) (ρ' := tenv ns p2 many x3 (some (.sh (lits a))) (some (.sh (lits b))) x6 x7 x8 x9 x10) (by unfold tenv; simp only [mAndT, mOrT, mBl, mOpS, mOpN, mBind, mMap, mPure, mSubN, mSub, asSh, mCall, f1, f2, mConsB, mNameB, mNameV, mNameM, lenD, DL.intD, liftB, liftI, toD_sh, toD_lst, List.getElem?_cons_zero, List.getElem?_cons_succ, List.map_cons, List.map_nil, pen_cells, pen_at, pen_digits, pen_count, pen_fold, put_at, put_digits, put_count, put_fold, List.set_cons_zero, List.set_cons_succ, sPut, sBind, sAsg, isSh, Bool.false_or, Bool.true_or, if_true, if_false, Bool.false_eq_true, reduceIte, addD, subI, mCallF, mHas, mConsO, DL.fill, putBack, slotSh_s, slotSh_sh, slotSh_ct, List.tail_cons, List.head?_cons, Option.join_some, mCons])).trans (rng2_ok (by omega))
    refine w_for (P := NextI _) (fun i ρ => ∃ (y6 : Option O), ρ = tenv ns p2 many x3 (some (.sh (lits a))) (some (.sh (lits b))) y6 x7 x8 x9 x10) src ⟨x6, rfl⟩ ?_ ?_
    · rintro i d ρ hd ⟨y6, rfl⟩
      have ed := rngD_get hd
      subst ed
      exact ⟨tenv ns p2 many x3 (some (.sh (lits a))) (some (.sh (lits b))) (some (.sh (.int (1 + (i : Int))))) x7 x8 x9 x10, rfl, .inl ⟨_, .inl (pair_step ha6 hb6), _, rfl⟩⟩
    · rintro ρ ⟨y6, rfl⟩
      exact nextI ⟨p2, _, _, y6, rfl, hp2.mono (by omega)⟩
end K24

end

section
set_option Elab.async false
set_option linter.all false
set_option maxRecDepth 100000
namespace K24
open PySem L2 RZ DL PyProof.Rows
theorem cD_tup : cD false = lits := by funext c; rfl
theorem neO_F {a : D} {n : Nat} (h : Sh n a) (hn : n ≤ 64) : neO a a = some (.sh (.bl false)) := neO_self h hn
theorem truth : ∀ ns : List Int, ns.length ≤ 63 → ∃ fs, sem_law [.sh (.fz (ns.map D.int))] = .ok (.sh (.bl true)) fs := by
  intro ns hl
  obtain ⟨p0, fs0, e0, hp0⟩ := pen_spec hl
  suffices h : RetI (fun o _ => o = .sh (.bl true)) (d_law [some (.sh (.fz (ns.map D.int))), none, none, none, none, none, none, none, none, none, none, none]) by
    obtain ⟨_, ρ, e, rfl⟩ := h
    exact ⟨_, by rw [sem_law, sem_ret (n := 1) rfl e]⟩
  obtain ⟨r, p1, e1, hr0, hr1, hp1⟩ := draw_spec (many := 6) hp0 (by decide) (lt512 (by decide) (by decide)) (by omega)
  have em : 1 + r = ((1 + r.toNat : Nat) : Int) := by omega
  unfold d_law
  have s1 : ∀ (S : Sem), S [.sh (.fz (ns.map D.int))] = .ok p0 fs0 → sAsg 1 (mCallF S [some 0] (mHas 0 (mPure []))) [some (.sh (.fz (ns.map D.int))), none, none, none, none, none, none, none, none, none, none, none] = .next [some (.sh (.fz (ns.map D.int))), some p0, none, none, none, none, none, none, none, none, none, none] := fun S h => by
    simp only [mAndT, mOrT, mBl, mOpS, mOpN, mBind, mMap, mPure, mSubN, mSub, asSh, mCall, f1, f2, mConsB, mNameB, mNameV, mNameM, DL.intD, liftB, liftI, toD_sh, toD_lst, List.getElem?_cons_zero, List.getElem?_cons_succ, List.map_cons, List.map_nil, pen_cells, pen_at, pen_digits, pen_count, pen_fold, put_at, put_digits, put_count, put_fold, List.set_cons_zero, List.set_cons_succ, sPut, sBind, sAsg, isSh, Bool.false_or, Bool.true_or, if_true, if_false, Bool.false_eq_true, reduceIte, subI, mCallF, mHas, mConsO, DL.fill, putBack, slotSh_s, slotSh_sh, slotSh_ct, List.tail_cons, List.head?_cons, Option.join_some, h]
  refine w_seq (s1 _ e0) ?_
  have s2 : ∀ (S : Sem), S [p0, .sh (.int 6)] = .ok (.sh (.int r)) [some p1, some (.sh (.int 6))] → sAsg 2 (mOpS addD (mMap O.sh (mPure (.int 1))) (mMap (fun o => ((none : Option Nat), o)) (mCallF S [some 1, none] (mHas 1 (mConsO (mMap O.sh (mPure (.int 6))) (mPure [])))))) [some (.sh (.fz (ns.map D.int))), some p0, none, none, none, none, none, none, none, none, none, none] = .next (tenv ns p1 (1 + r.toNat) none none none none none none none none) := fun S h => by
    unfold tenv
    rw [← em]
    simp only [mAndT, mOrT, mBl, mOpS, mOpN, mBind, mMap, mPure, mSubN, mSub, asSh, mCall, f1, f2, mConsB, mNameB, mNameV, mNameM, lenD, DL.intD, liftB, liftI, toD_sh, toD_lst, List.getElem?_cons_zero, List.getElem?_cons_succ, List.map_cons, List.map_nil, pen_cells, pen_at, pen_digits, pen_count, pen_fold, put_at, put_digits, put_count, put_fold, List.set_cons_zero, List.set_cons_succ, sPut, sBind, sAsg, isSh, Bool.false_or, Bool.true_or, if_true, if_false, Bool.false_eq_true, reduceIte, addD, subI, mCallF, mHas, mConsO, DL.fill, putBack, slotSh_s, slotSh_sh, slotSh_ct, List.tail_cons, List.head?_cons, Option.join_some, h, pen_slot hp0]
  refine w_seq (s2 _ e1) ?_
  generalize hmany : 1 + r.toNat = many
  have hm1 : 1 ≤ many := by omega
  have hm6 : many ≤ 6 := by omega
  refine w_seqI (fun ρ => ∃ (p : O) (x3 x4 x5 x6 : Option O), ρ = tenv ns p many x3 x4 x5 x6 none none none none ∧ PenOk 1000 p) ?_ ?_
  · have src : (mBind (mCons (mPure (.int 6)) (mPure [])) rng1) (tenv ns p1 many none none none none none none none none) = .ok (rngD 0 6) (tenv ns p1 many none none none none none none none none) :=
      (mBind_ok (a := [D.int ((6 : Nat) : Int)]) (ρ' := tenv ns p1 many none none none none none none none none) rfl).trans (rng1_ok (by omega))
    refine w_for (P := NextI _) (fun i ρ => i ≤ 6 ∧ ∃ (p : O) (x3 x4 x5 x6 : Option O), ρ = tenv ns p many x3 x4 x5 x6 none none none none ∧ PenOk (1 + 40 * i) p) src ⟨by omega, p1, none, none, none, none, rfl, hp1.mono (by omega)⟩ ?_ ?_
    · rintro i d ρ hd ⟨hi, p, x3, x4, x5, x6, rfl, hp⟩
      have hil : i < 6 := by have := (List.getElem?_eq_some_iff.mp hd).1; rw [rngD_len] at this; exact this
      obtain ⟨ρ2, e2, p', y4, y5, y6, rfl, hp'⟩ := lap6_step (ns := ns) (x3 := some (.sh d)) (x4 := x4) (x5 := x5) (x6 := x6) (x7 := none) (x8 := none) (x9 := none) (x10 := none) hp hm1 hm6 (by omega)
      exact ⟨tenv ns p many (some (.sh d)) x4 x5 x6 none none none none, rfl, .inl ⟨_, .inl e2, by omega, p', _, y4, y5, y6, rfl, hp'.mono (by omega)⟩⟩
    · rintro ρ ⟨hi, p, x3, x4, x5, x6, rfl, hp⟩
      rw [rngD_len] at hp
      exact nextI ⟨p, x3, x4, x5, x6, rfl, hp.mono (by omega)⟩
  rintro _ ⟨p2, x3, x4, x5, x6, rfl, hp2⟩
  -- the row
  obtain ⟨r2, p3, e3, h20, h21, hp3⟩ := draw_spec (many := 8) hp2 (by decide) (lt512 (by decide) (by decide)) (by omega)
  have en : ((2 + r2.toNat : Nat) : Int) = 2 + r2 := by omega
  obtain ⟨row, p4, e4, hrow, hrl, hp4⟩ := row_spec (n := 2 + r2.toNat) hp3 hm1 hm6 (by omega) (by omega)
  rw [en] at e4
  have s7 : ∀ (S T : Sem), T [p2, .sh (.int 8)] = .ok (.sh (.int r2)) [some p3, some (.sh (.int 8))] → S [p3, .sh (.int (many : Int)), .sh (.int (2 + r2))] = .ok (.sh (.tup (row.map lits))) [some p4, some (.sh (.int (many : Int))), some (.sh (.int (2 + r2)))] → sAsg 7 (mCallF S [some 1, some 2, none] (mHas 1 (mHas 2 (mConsO (mOpS addD (mMap O.sh (mPure (.int 2))) (mMap (fun o => ((none : Option Nat), o)) (mCallF T [some 1, none] (mHas 1 (mConsO (mMap O.sh (mPure (.int 8))) (mPure [])))))) (mPure []))))) (tenv ns p2 many x3 x4 x5 x6 none none none none) = .next (tenv ns p4 many x3 x4 x5 x6 (some (.sh (.tup (row.map lits)))) none none none) := fun S T h1 h2 => by
    unfold tenv
    simp only [mAndT, mOrT, mBl, mOpS, mOpN, mBind, mMap, mPure, mSubN, mSub, asSh, mCall, f1, f2, mConsB, mNameB, mNameV, mNameM, lenD, DL.intD, liftB, liftI, toD_sh, toD_lst, List.getElem?_cons_zero, List.getElem?_cons_succ, List.map_cons, List.map_nil, pen_cells, pen_at, pen_digits, pen_count, pen_fold, put_at, put_digits, put_count, put_fold, List.set_cons_zero, List.set_cons_succ, sPut, sBind, sAsg, isSh, Bool.false_or, Bool.true_or, if_true, if_false, Bool.false_eq_true, reduceIte, addD, subI, mCallF, mHas, mConsO, DL.fill, putBack, slotSh_s, slotSh_sh, slotSh_ct, List.tail_cons, List.head?_cons, Option.join_some, h1, h2, pen_slot hp2, pen_slot hp3]
  refine w_seq (s7 _ _ e3 e4) ?_
  have hrow6 : ∀ c ∈ row, Cl 6 c := fun c hc => (hrow c hc).mono hm6
  -- the lines
  obtain ⟨r3, p5, e5, h30, h31, hp5⟩ := draw_spec (many := 6) hp4 (by decide) (lt512 (by decide) (by decide)) (by omega)
  have en3 : ((4 + r3.toNat : Nat) : Int) = 4 + r3 := by omega
  obtain ⟨p6, ls, e6, hp6, hls, hll⟩ := drawn_lines_spec (many := 4 + r3.toNat) hp5 hrow6 (by omega) (by omega) (by omega) (by omega)
  rw [en3] at e6
  have s8 : ∀ (S T : Sem), T [p4, .sh (.int 6)] = .ok (.sh (.int r3)) [some p5, some (.sh (.int 6))] → S [p5, .sh (.tup (row.map lits)), .sh (.int (4 + r3))] = .ok (.sh (.tup (ls.map Ln.d))) [some p6, some (.sh (.tup (row.map lits))), some (.sh (.int (4 + r3)))] → sAsg 8 (mCallF S [some 1, some 7, none] (mHas 1 (mHas 7 (mConsO (mOpS addD (mMap O.sh (mPure (.int 4))) (mMap (fun o => ((none : Option Nat), o)) (mCallF T [some 1, none] (mHas 1 (mConsO (mMap O.sh (mPure (.int 6))) (mPure [])))))) (mPure []))))) (tenv ns p4 many x3 x4 x5 x6 (some (.sh (.tup (row.map lits)))) none none none) = .next (tenv ns p6 many x3 x4 x5 x6 (some (.sh (.tup (row.map lits)))) (some (.sh (.tup (ls.map Ln.d)))) none none) := fun S T h1 h2 => by
    unfold tenv
    simp only [mAndT, mOrT, mBl, mOpS, mOpN, mBind, mMap, mPure, mSubN, mSub, asSh, mCall, f1, f2, mConsB, mNameB, mNameV, mNameM, lenD, DL.intD, liftB, liftI, toD_sh, toD_lst, List.getElem?_cons_zero, List.getElem?_cons_succ, List.map_cons, List.map_nil, pen_cells, pen_at, pen_digits, pen_count, pen_fold, put_at, put_digits, put_count, put_fold, List.set_cons_zero, List.set_cons_succ, sPut, sBind, sAsg, isSh, Bool.false_or, Bool.true_or, if_true, if_false, Bool.false_eq_true, reduceIte, addD, subI, mCallF, mHas, mConsO, DL.fill, putBack, slotSh_s, slotSh_sh, slotSh_ct, List.tail_cons, List.head?_cons, Option.join_some, h1, h2, pen_slot hp4, pen_slot hp5]
  refine w_seq (s8 _ _ e5 e6) ?_
  obtain ⟨out, hout⟩ := hls.ev
  have hol := linesC_len hout
  simp only [List.length_nil, Nat.zero_add] at hol
  have e7 := lc_spec (l := false) (ro := .sh (.tup (row.map lits))) (by rw [cD_tup]; exact .tup _) hrow6 hls.ok hls.few (by omega) hout
  have e8 := llc_spec (ro := .sh (.tup (row.map lits))) (.tup _) hrow6 hls.ok (by omega) hout
  have s9 : ∀ (S : Sem), S [.sh (.tup (row.map lits)), .sh (.tup (ls.map Ln.d))] = .ok (.sh (.tup (out.map lits))) [some (.sh (.tup (row.map lits))), some (.sh (.tup (ls.map Ln.d)))] → sAsg 9 (mCallF S [some 7, some 8] (mHas 7 (mHas 8 (mPure [])))) (tenv ns p6 many x3 x4 x5 x6 (some (.sh (.tup (row.map lits)))) (some (.sh (.tup (ls.map Ln.d)))) none none) = .next (tenv ns p6 many x3 x4 x5 x6 (some (.sh (.tup (row.map lits)))) (some (.sh (.tup (ls.map Ln.d)))) (some (.sh (.tup (out.map lits)))) none) := fun S h => by
    unfold tenv
    simp only [mAndT, mOrT, mBl, mOpS, mOpN, mBind, mMap, mPure, mSubN, mSub, asSh, mCall, f1, f2, mConsB, mNameB, mNameV, mNameM, DL.intD, liftB, liftI, toD_sh, toD_lst, List.getElem?_cons_zero, List.getElem?_cons_succ, List.map_cons, List.map_nil, pen_cells, pen_at, pen_digits, pen_count, pen_fold, put_at, put_digits, put_count, put_fold, List.set_cons_zero, List.set_cons_succ, sPut, sBind, sAsg, isSh, Bool.false_or, Bool.true_or, if_true, if_false, Bool.false_eq_true, reduceIte, subI, mCallF, mHas, mConsO, DL.fill, putBack, slotSh_s, slotSh_sh, slotSh_ct, List.tail_cons, List.head?_cons, Option.join_some, h]
  refine w_seq (s9 _ e7) ?_
  have neq : neO (.tup (out.map lits)) (.tup (out.map lits)) = some (.sh (.bl false)) := neO_self sh_rows (by decide)
  have eqs : eqO (.tup (out.map lits)) (.tup (out.map lits)) = some (.sh (.bl true)) := eqO_self sh_rows (by decide)
  have s10 : ∀ (S : Sem), S [.sh (.tup (row.map lits)), .sh (.tup (ls.map Ln.d))] = .ok (.sh (.tup (out.map lits))) [some (.sh (.tup (row.map lits))), some (.sh (.tup (ls.map Ln.d)))] → (mBl (mOpN 9 neO (mMap (fun o => ((none : Option Nat), o)) (mCallF S [some 7, some 8] (mHas 7 (mHas 8 (mPure []))))))) (tenv ns p6 many x3 x4 x5 x6 (some (.sh (.tup (row.map lits)))) (some (.sh (.tup (ls.map Ln.d)))) (some (.sh (.tup (out.map lits)))) none) = .ok false (tenv ns p6 many x3 x4 x5 x6 (some (.sh (.tup (row.map lits)))) (some (.sh (.tup (ls.map Ln.d)))) (some (.sh (.tup (out.map lits)))) none) := fun S h => by
    unfold tenv
    simp only [mAndT, mOrT, mBl, mOpS, mOpN, mBind, mMap, mPure, mSubN, mSub, asSh, mCall, f1, f2, mConsB, mNameB, mNameV, mNameM, DL.intD, liftB, liftI, toD_sh, toD_lst, List.getElem?_cons_zero, List.getElem?_cons_succ, List.map_cons, List.map_nil, pen_cells, pen_at, pen_digits, pen_count, pen_fold, put_at, put_digits, put_count, put_fold, List.set_cons_zero, List.set_cons_succ, sPut, sBind, sAsg, isSh, Bool.false_or, Bool.true_or, if_true, if_false, Bool.false_eq_true, reduceIte, subI, mCallF, mHas, mConsO, DL.fill, putBack, slotSh_s, slotSh_sh, slotSh_ct, List.tail_cons, List.head?_cons, Option.join_some, h, neq]
  refine w_seq (w_ifF (P := fun o => o = .next _) (s10 _ e8) rfl) ?_
  obtain ⟨ms, e9, hms⟩ := models_spec hm6 hrow (by omega)
  refine w_seqI (fun ρ => ∃ (y : Option O), ρ = tenv ns p6 many x3 x4 x5 x6 (some (.sh (.tup (row.map lits)))) (some (.sh (.tup (ls.map Ln.d)))) (some (.sh (.tup (out.map lits)))) y) ?_ ?_
  · have src : ∀ (S : Sem), S [.sh (.int (many : Int)), .sh (.tup (row.map lits)), .sh (.tup [])] = .ok (.lst (ms.map lits)) [some (.sh (.int (many : Int))), some (.sh (.tup (row.map lits))), some (.sh (.tup []))] → (mBind (mMap O.toD (mCallF S [some 2, some 7, none] (mHas 2 (mHas 7 (mConsO (mMap O.sh (mTup (mPure []))) (mPure [])))))) seqD) (tenv ns p6 many x3 x4 x5 x6 (some (.sh (.tup (row.map lits)))) (some (.sh (.tup (ls.map Ln.d)))) (some (.sh (.tup (out.map lits)))) none) = .ok (ms.map lits) (tenv ns p6 many x3 x4 x5 x6 (some (.sh (.tup (row.map lits)))) (some (.sh (.tup (ls.map Ln.d)))) (some (.sh (.tup (out.map lits)))) none) := fun S h => by
      unfold tenv
      simp only [mAndT, mOrT, mBl, mOpS, mOpN, mBind, mMap, mPure, mSubN, mSub, asSh, mCall, f1, f2, mConsB, mNameB, mNameV, mNameM, DL.intD, liftB, liftI, toD_sh, toD_lst, List.getElem?_cons_zero, List.getElem?_cons_succ, List.map_cons, List.map_nil, pen_cells, pen_at, pen_digits, pen_count, pen_fold, put_at, put_digits, put_count, put_fold, List.set_cons_zero, List.set_cons_succ, sPut, sBind, sAsg, isSh, Bool.false_or, Bool.true_or, if_true, if_false, Bool.false_eq_true, reduceIte, subI, mCallF, mHas, mConsO, DL.fill, putBack, slotSh_s, slotSh_sh, slotSh_ct, List.tail_cons, List.head?_cons, Option.join_some, mTup, List.length_nil, show (0 ≤ lim) = True from eq_true (Nat.zero_le _), h, seqD]
    refine w_for (P := NextI _) (fun i ρ => ∃ (y : Option O), ρ = tenv ns p6 many x3 x4 x5 x6 (some (.sh (.tup (row.map lits)))) (some (.sh (.tup (ls.map Ln.d)))) (some (.sh (.tup (out.map lits)))) y) (src _ e9) ⟨none, rfl⟩ ?_ (fun ρ h => nextI h)
    rintro i d ρ hd ⟨y, rfl⟩
    rw [List.getElem?_map] at hd
    cases hpb : ms[i]? with
    | none => rw [hpb] at hd; cases hd
    | some bs =>
    rw [hpb] at hd
    cases hd
    obtain ⟨hbs, hfit⟩ := hms bs (List.mem_iff_getElem?.mpr ⟨i, hpb⟩)
    have hall := linesC_fits hbs (fun c hc => ⟨hrow c hc, hfit c hc⟩) (by simp) hout
    have lc := m_lcR (vs := [11]) (src := mBind (mNameV 9) seqD) (bn := bName 11) (t := mMap (fun b => !b) (mTru (mMap (fun o => ((none : Option Nat), o)) (mCallF sem__law_fits [some 10, some 11] (mHas 10 (mHas 11 (mPure []))))))) (e := mPure (.int 1))
      (ρ := tenv ns p6 many x3 x4 x5 x6 (some (.sh (.tup (row.map lits)))) (some (.sh (.tup (ls.map Ln.d)))) (some (.sh (.tup (out.map lits)))) (some (.sh (lits bs)))) (ρ' := tenv ns p6 many x3 x4 x5 x6 (some (.sh (.tup (row.map lits)))) (some (.sh (.tup (ls.map Ln.d)))) (some (.sh (.tup (out.map lits)))) (some (.sh (lits bs)))) (xs := out) lits (fun c => !fitsB bs c) (fun _ => .int 1) rfl rfl (by unfold lim; omega) fun c hcm =>
        ⟨[some (.sh (.fz (ns.map D.int))), some p6, some (.sh (.int (many : Int))), x3, x4, x5, x6, some (.sh (.tup (row.map lits))), some (.sh (.tup (ls.map Ln.d))), some (.sh (.tup (out.map lits))), some (.sh (lits bs)), some (.sh (lits c))], [some (.sh (.fz (ns.map D.int))), some p6, some (.sh (.int (many : Int))), x3, x4, x5, x6, some (.sh (.tup (row.map lits))), some (.sh (.tup (ls.map Ln.d))), some (.sh (.tup (out.map lits))), some (.sh (lits bs)), some (.sh (lits c))], rfl, by
          have hf := fits_spec (bs := bs) (c := c) (fun l hl => by have := (hall c hcm).1.rg l hl; rw [hbs.1]; exact this) (by have := (hall c hcm).1.len; omega)
          simp only [mAndT, mOrT, mBl, mOpS, mOpN, mBind, mMap, mPure, mSubN, mSub, asSh, mCall, f1, f2, mConsB, mNameB, mNameV, mNameM, DL.intD, liftB, liftI, toD_sh, toD_lst, List.getElem?_cons_zero, List.getElem?_cons_succ, List.map_cons, List.map_nil, pen_cells, pen_at, pen_digits, pen_count, pen_fold, put_at, put_digits, put_count, put_fold, List.set_cons_zero, List.set_cons_succ, sPut, sBind, sAsg, isSh, Bool.false_or, Bool.true_or, if_true, if_false, Bool.false_eq_true, reduceIte, subI, mCallF, mHas, mConsO, DL.fill, putBack, slotSh_s, slotSh_sh, slotSh_ct, List.tail_cons, List.head?_cons, Option.join_some, mTru, truD, hf], rfl, fun _ => ⟨_, rfl, rfl⟩⟩
    have le : (out.filter fun c => !fitsB bs c).map (fun _ => D.int 1) = [] := by
      rw [List.map_eq_nil_iff, List.filter_eq_nil_iff]
      intro c hc
      rw [(hall c hc).2]
      decide
    rw [le] at lc
    have ne0 : neO (.lst ([] : List D)) (.lst []) = some (.sh (.bl false)) := neO_nilL (n := 1) (sh_lst (n := 0) (ds := []) (by simp)) (by decide)
    have tst := mBl_ok (mOpS_ok lc nil_ok ne0)
    exact ⟨_, rfl, .inl ⟨_, .inl (w_ifF (P := fun o => o = .next _) tst rfl), _, rfl⟩⟩
  rintro _ ⟨y, rfl⟩
  have e10 := lc_spec (l := true) (ro := .lst (row.map (cD true))) (.own _) hrow6 hls.ok hls.few (by omega) hout
  have e11 := lc_spec (l := false) (ro := .sh (.tup (row.map lits))) (ls := []) (out := []) (by rw [cD_tup]; exact .tup _) hrow6 (by simp) (by simp) (by simp) rfl
  have s12 : ∀ {c : List Int}, listD (lits c) = some (.lst (c.map D.int)) := rfl
  have lcm := m_lcA (vs := [11]) (src := mBind (mNameV 7) seqD) (bn := bName 11) (e := mMap O.toD (mCall (f1 listD) (mConsB true (mNameB 11) (mPure []))))
    (ρ := tenv ns p6 many x3 x4 x5 x6 (some (.sh (.tup (row.map lits)))) (some (.sh (.tup (ls.map Ln.d)))) (some (.sh (.tup (out.map lits)))) y) (ρ' := tenv ns p6 many x3 x4 x5 x6 (some (.sh (.tup (row.map lits)))) (some (.sh (.tup (ls.map Ln.d)))) (some (.sh (.tup (out.map lits)))) y) (xs := row) lits (cD true) rfl rfl (by unfold lim; omega) fun c hcm =>
      ⟨[some (.sh (.fz (ns.map D.int))), some p6, some (.sh (.int (many : Int))), x3, x4, x5, x6, some (.sh (.tup (row.map lits))), some (.sh (.tup (ls.map Ln.d))), some (.sh (.tup (out.map lits))), y, some (.sh (lits c))], rfl, [some (.sh (.fz (ns.map D.int))), some p6, some (.sh (.int (many : Int))), x3, x4, x5, x6, some (.sh (.tup (row.map lits))), some (.sh (.tup (ls.map Ln.d))), some (.sh (.tup (out.map lits))), y, some (.sh (lits c))], by
        simp only [mAndT, mOrT, mBl, mOpS, mOpN, mBind, mMap, mPure, mSubN, mSub, asSh, mCall, f1, f2, mConsB, mNameB, mNameV, mNameM, DL.intD, liftB, liftI, toD_sh, toD_lst, List.getElem?_cons_zero, List.getElem?_cons_succ, List.map_cons, List.map_nil, pen_cells, pen_at, pen_digits, pen_count, pen_fold, put_at, put_digits, put_count, put_fold, List.set_cons_zero, List.set_cons_succ, sPut, sBind, sAsg, isSh, Bool.false_or, Bool.true_or, if_true, if_false, Bool.false_eq_true, reduceIte, subI, mCallF, mHas, mConsO, DL.fill, putBack, slotSh_s, slotSh_sh, slotSh_ct, List.tail_cons, List.head?_cons, Option.join_some, s12]
        rfl, rfl, rfl⟩
  have hA : ∀ (S : Sem), S [.lst (row.map (cD true)), .sh (.tup (ls.map Ln.d))] = .ok (.sh (.tup (out.map lits))) [some (.lst (row.map (cD true))), some (.sh (.tup (ls.map Ln.d)))] → (mMap O.toD (mOpS eqO (mCallF S [none, some 8] (mConsO (mLc [11] (mBind (mNameV 7) seqD) (bName 11) (mPure true) (mMap O.toD (mCall (f1 listD) (mConsB true (mNameB 11) (mPure []))))) (mHas 8 (mPure [])))) (mNameB 9))) (tenv ns p6 many x3 x4 x5 x6 (some (.sh (.tup (row.map lits)))) (some (.sh (.tup (ls.map Ln.d)))) (some (.sh (.tup (out.map lits)))) y) = .ok (.bl true) (tenv ns p6 many x3 x4 x5 x6 (some (.sh (.tup (row.map lits)))) (some (.sh (.tup (ls.map Ln.d)))) (some (.sh (.tup (out.map lits)))) y) := fun S h => by
    unfold tenv at lcm ⊢
    simp only [mAndT, mOrT, mBl, mOpS, mOpN, mBind, mMap, mPure, mSubN, mSub, asSh, mCall, f1, f2, mConsB, mNameB, mNameV, mNameM, DL.intD, liftB, liftI, toD_sh, toD_lst, List.getElem?_cons_zero, List.getElem?_cons_succ, List.map_cons, List.map_nil, pen_cells, pen_at, pen_digits, pen_count, pen_fold, put_at, put_digits, put_count, put_fold, List.set_cons_zero, List.set_cons_succ, sPut, sBind, sAsg, isSh, Bool.false_or, Bool.true_or, if_true, if_false, Bool.false_eq_true, reduceIte, subI, mCallF, mHas, mConsO, DL.fill, putBack, slotSh_s, slotSh_sh, slotSh_ct, List.tail_cons, List.head?_cons, Option.join_some, ↓lcm, h, eqs]
  have eq0 : eqO (.tup ([] : List D)) (.tup []) = some (.sh (.bl true)) := eqO_self (n := 1) (sh_tup (n := 0) (ds := []) (by simp)) (by decide)
  have hB : ∀ (S : Sem), S [.sh (.tup (row.map lits)), .sh (.tup [])] = .ok (.sh (.tup [])) [some (.sh (.tup (row.map lits))), some (.sh (.tup []))] → (mMap O.toD (mOpS eqO (mCallF S [some 7, none] (mHas 7 (mConsO (mMap O.sh (mTup (mPure []))) (mPure [])))) (mMap (fun d => ((none : Option Nat), O.sh d)) (mTup (mPure []))))) (tenv ns p6 many x3 x4 x5 x6 (some (.sh (.tup (row.map lits)))) (some (.sh (.tup (ls.map Ln.d)))) (some (.sh (.tup (out.map lits)))) y) = .ok (.bl true) (tenv ns p6 many x3 x4 x5 x6 (some (.sh (.tup (row.map lits)))) (some (.sh (.tup (ls.map Ln.d)))) (some (.sh (.tup (out.map lits)))) y) := fun S h => by
    unfold tenv
    simp only [mAndT, mOrT, mBl, mOpS, mOpN, mBind, mMap, mPure, mSubN, mSub, asSh, mCall, f1, f2, mConsB, mNameB, mNameV, mNameM, DL.intD, liftB, liftI, toD_sh, toD_lst, List.getElem?_cons_zero, List.getElem?_cons_succ, List.map_cons, List.map_nil, pen_cells, pen_at, pen_digits, pen_count, pen_fold, put_at, put_digits, put_count, put_fold, List.set_cons_zero, List.set_cons_succ, sPut, sBind, sAsg, isSh, Bool.false_or, Bool.true_or, if_true, if_false, Bool.false_eq_true, reduceIte, subI, mCallF, mHas, mConsO, DL.fill, putBack, slotSh_s, slotSh_sh, slotSh_ct, List.tail_cons, List.head?_cons, Option.join_some, mTup, List.length_nil, show (0 ≤ lim) = True from eq_true (Nat.zero_le _), h, eq0]
  have hAB : ∀ {A B : M D} {ρ : DL.Env}, A ρ = .ok (.bl true) ρ → B ρ = .ok (.bl true) ρ → (mMap O.sh (mAndV A B)) ρ = .ok (.sh (.bl true)) ρ := fun {A B ρ} h1 h2 => by
    have h3 : mAndV A B ρ = .ok (.bl true) ρ := by
      unfold mAndV
      rw [mBind_ok h1]
      exact h2
    rw [mMap_ok h3]
  exact w_ret (hAB (hA _ e10) (hB _ e11)) rfl
end K24

end

section
set_option Elab.async false
set_option linter.all false
set_option maxRecDepth 100000
namespace K24
open PySem L2 RZ DL PyProof.Rows
theorem walk {l : PySem.W.OpenLaw} {q : Program} {loose : List Str} {XP : (Str → Option Value) → Heap → Prop} {YP : World → Heap → Prop} {d : DefRec} {K : Params → PySem.W.Frag} (hn : l.most = some 63) (hdf : d.params.defaults = [])
    (hY : ∀ (w : World) (h : Heap), YP w h → (K w.params).In h)
    (F : ∀ (w : World) (mg : Str → Option Value) (fa : Addr) (h : Heap), (K w.params).In h → h.Ns mainGlobals mg → mg d.name = some (.ref fa) →
      ∃ fd : FuncData, (∀ (s : Shared) (u : Value), BindsTo s fd ⟨[u], []⟩ [("_law_script", u)]) ∧ ∀ base : Heap, (K w.params).In base → base.Ns mainGlobals mg → FnOk l.prog w (K w.params) mg base CX0 15 fa fd ["_law_script"] (DL.spLaw (K w.params))) :
    PySem.W.WalkO q loose XP YP l.row.toRowW d [] (fun f vs => PySem.call f vs) :=
  L2.walk_of (n := 63) (k := 15) (x := "_law_script") (CX := fun _ => CX0) (sp := fun w => DL.spLaw (K w.params)) hn (by decide) hdf ⟨rfl, by decide, by decide⟩ hY F (fun _ _ a ns hl _ hS => ⟨a, ns, rfl, hS, hl, fun _ => rfl⟩) fun _ _ _ _ _ z => z
end K24
open PySem PySem.W PyProof.Rows
set_option maxRecDepth 100000 in
set_option maxHeartbeats 0 in
theorem PySem.Challenge.cw_everycycle_k24_whole_resolvents_holds : PySem.Challenge.rw_everycycle_k24_whole_resolvents.Holds := by
  w_on; o_law; k_head; (case hw => w_witness2)
  k_fill
  refine K24.walk (l := PySem.Challenge.rw_everycycle_k24_whole_resolvents) rfl rfl (fun w h Y => PySem.W.kIn_of Y) ?F
  case F =>
    intro w mg fa h KX G hmg
    refine' K24.all_mk KX G hmg K24.truth ?a0 ?l0 ?c0 ?k0 ?a1 ?l1 ?c1 ?k1 ?a2 ?l2 ?c2 ?k2 ?a3 ?l3 ?c3 ?k3 ?a4 ?l4 ?c4 ?k4 ?a5 ?l5 ?c5 ?k5 ?a6 ?l6 ?c6 ?k6 ?a7 ?l7 ?c7 ?k7 ?a8 ?l8 ?c8 ?k8 ?a9 ?l9 ?c9 ?k9 ?a10 ?l10 ?c10 ?k10 ?a11 ?l11 ?c11 ?k11 ?a12 ?l12 ?c12 ?k12 ?a13 ?l13 ?c13 ?k13 ?a14 ?l14 ?c14 ?k14 ?a15 ?l15 ?c15 ?k15 ?a16 ?l16 ?c16 ?k16 ?a17 ?l17 ?c17 ?k17 ?a18 ?l18 ?c18 ?k18 ?a19 ?l19 ?c19 ?k19 ?a20 ?l20 ?c20 ?k20 ?a21 ?l21 ?c21 ?k21 ?a22 ?l22 ?c22 ?k22 ?a23 ?l23 ?c23 ?k23 ?z0 ?z1 ?z2 ?z3 ?z4 ?z5 ?z6 ?z7 ?z8 ?z9 ?z10
    (case a0 => k_is); (case l0 => k_is); (case c0 => k_is); (case k0 => k_is)
    (case a1 => k_is); (case l1 => k_is); (case c1 => k_is); (case k1 => k_is)
    (case a2 => k_is); (case l2 => k_is); (case c2 => k_is); (case k2 => k_is)
    (case a3 => k_is); (case l3 => k_is); (case c3 => k_is); (case k3 => k_is)
    (case a4 => k_is); (case l4 => k_is); (case c4 => k_is); (case k4 => k_is)
    (case a5 => k_is); (case l5 => k_is); (case c5 => k_is); (case k5 => k_is)
    (case a6 => k_is); (case l6 => k_is); (case c6 => k_is); (case k6 => k_is)
    (case a7 => k_is); (case l7 => k_is); (case c7 => k_is); (case k7 => k_is)
    (case a8 => k_is); (case l8 => k_is); (case c8 => k_is); (case k8 => k_is)
    (case a9 => k_is); (case l9 => k_is); (case c9 => k_is); (case k9 => k_is)
    (case a10 => k_is); (case l10 => k_is); (case c10 => k_is); (case k10 => k_is)
    (case a11 => k_is); (case l11 => k_is); (case c11 => k_is); (case k11 => k_is)
    (case a12 => k_is); (case l12 => k_is); (case c12 => k_is); (case k12 => k_is)
    (case a13 => k_is); (case l13 => k_is); (case c13 => k_is); (case k13 => k_is)
    (case a14 => k_is); (case l14 => k_is); (case c14 => k_is); (case k14 => k_is)
    (case a15 => k_is); (case l15 => k_is); (case c15 => k_is); (case k15 => k_is)
    (case a16 => k_is); (case l16 => k_is); (case c16 => k_is); (case k16 => k_is)
    (case a17 => k_is); (case l17 => k_is); (case c17 => k_is); (case k17 => k_is)
    (case a18 => k_is); (case l18 => k_is); (case c18 => k_is); (case k18 => k_is)
    (case a19 => k_is); (case l19 => k_is); (case c19 => k_is); (case k19 => k_is)
    (case a20 => k_is); (case l20 => k_is); (case c20 => k_is); (case k20 => k_is)
    (case a21 => k_is); (case l21 => k_is); (case c21 => k_is); (case k21 => k_is)
    (case a22 => k_is); (case l22 => k_is); (case c22 => k_is); (case k22 => k_is)
    (case a23 => k_is); (case l23 => k_is); (case c23 => k_is); (case k23 => k_is)
    (case z0 => k_is); (case z1 => k_is); (case z2 => k_is); (case z3 => k_is); (case z4 => k_is); (case z5 => k_is); (case z6 => k_is); (case z7 => k_is); (case z8 => k_is); (case z9 => k_is); (case z10 => k_is)

end
