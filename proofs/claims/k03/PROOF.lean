import PyProof.Rows.All
import HandS.ForMost
import HandS.Exc
import HandS.WordsExc
import HandS.Slots
import HandS.WideBits
import HandS.Wide
import HandS.Deep
import HandS.Walk
import HandS.SortInts
import KE.GoesEnum
import KE.GoesNew
import HandS.List
import HandS.Dict
import HandS.WordsDict
import HandS.Conv
import HandS.IsInst
import HandS.Small
import PyProof.Rows.SortShellAny
import HandS.Text
import HandS.TupAny
import HandS.Style
import KE.KRevSl
import HandS.Star
import HandS.FStr
import HandS.SlotsOwn
import HandS.ClsMeth
import OpenK.KOps
import OpenK.KMeth
import KE.KOpsOwn
import PyProof.InstEq
import HandS.MakeKw
import HandS.DictComp
import HandS.Defaults
import HandS.Iter
import HandS.DictEq
import HandS.Head0
import HandS.Head1
import HandS.Head2
import HandS.HeadEnd
import HandS.HeadHook1
import HandS.HeadHook2
import HandS.IterVal
import KE.KDictZip
import PySem.Challenge.RW_turnwebs_k03_whole_renamings
set_option Elab.async false
set_option linter.all false
set_option maxRecDepth 100000
set_option maxHeartbeats 2000000
namespace DE
open PySem PySem.Spec PyProof.Rows L2

/-! ### data -/
/-- a sign -/
abbrev Ch := Fin 1114112
inductive DK where
  | i (n : Int)
  | s (x : List Ch)
  deriving DecidableEq
def mkS (l : List Ch) : Str := ⟨(l.map Fin.val).toArray⟩
def kk : DK → Key
  | .i n => .inl n
  | .s x => .inr (mkS x)
inductive D where
  | undef
  | non
  | bl (b : Bool)
  | int (i : Int)
  | str (s : List Ch)
  | tup (xs : List D)
  | lst (xs : List D)
  | frl (xs : List D)
  | dk (ks : List DK) (vs : List D)
  | obj (c : Nat) (fs : List D)
  | kls (c : Nat)
  deriving Inhabited
/-- the program's constants: the written part, the classes by number -/
structure Ctx where
  K : PySem.W.Frag
  cls : Nat → Addr

mutual
/-- v stands for d, by what is written in I -/
def Rep (T : Ctx) (I : Hp) : D → V → Prop
  | .undef, _ => False
  | .non, v => v = .non
  | .bl b, v => v = .bl b
  | .int i, v => v = .int i
  | .str s, v => v = .str (mkS s)
  | .tup ds, v => ∃ a xs, v = .ref a ∧ SqT T.K I a xs ∧ Reps T I ds xs
  | .lst ds, v => ∃ a xs, v = .ref a ∧ I a = some (.lst xs) ∧ Reps T I ds xs
  | .frl ds, v => ∃ a xs, v = .ref a ∧ SqL T.K I a xs ∧ Reps T I ds xs
  | .dk ks ds, v => ∃ a o kvs, v = .ref a ∧ I a = some (.frz o (.dK kvs)) ∧ kvs.map (·.1) = ks.map kk ∧ Reps T I ds (kvs.map (·.2))
  | .kls c, v => v = .ref (T.cls c)
  | .obj c fs, v => ∃ a dx vs, v = .ref a ∧ SlX.Slt I a (T.cls c) dx vs ∧ RepSl T I fs vs
def Reps (T : Ctx) (I : Hp) : List D → List V → Prop
  | [], xs => xs = []
  | d :: ds, xs => ∃ v r, xs = v :: r ∧ Rep T I d v ∧ Reps T I ds r
def RepSl (T : Ctx) (I : Hp) : List D → List (Option V) → Prop
  | [], _ => True
  | d :: ds, xs => ∃ o r, xs = o :: r ∧ (d = .undef ∨ ∃ v, o = some v ∧ Rep T I d v) ∧ RepSl T I ds r
end

theorem Same.slt {I I' : Hp} {a C dx : Addr} {vs : List (Option V)} (h : Same I I') (x : SlX.Slt I a C dx vs) : SlX.Slt I' a C dx vs := by
  rcases x with ⟨h1, h2⟩ | ⟨h1, h2⟩
  · exact .inl ⟨h _ _ h1, h2⟩
  · exact .inr ⟨h _ _ h1, h _ _ h2⟩
theorem Same.sqt {K : PySem.W.Frag} {I I' : Hp} {a : Addr} {xs : List V} (h : Same I I') (x : SqT K I a xs) : SqT K I' a xs := by
  rcases x with (x | ⟨o, x⟩) | x
  · exact .inl (.inl (h _ _ x))
  · exact .inl (.inr ⟨o, h _ _ x⟩)
  · exact .inr x

section
variable {T : Ctx} {I I' : Hp}
mutual
theorem Rep.mono (h : Same I I') : ∀ {d : D} {v : V}, Rep T I d v → Rep T I' d v
  | .undef, _, x => by simp only [Rep] at x
  | .non, _, x => by simpa only [Rep] using x
  | .bl _, _, x => by simpa only [Rep] using x
  | .int _, _, x => by simpa only [Rep] using x
  | .str _, _, x => by simpa only [Rep] using x
  | .kls _, _, x => by simpa only [Rep] using x
  | .tup ds, _, x => by
    simp only [Rep] at x ⊢
    obtain ⟨a, xs, e, q, r⟩ := x
    exact ⟨a, xs, e, Same.sqt h q, Reps.mono h r⟩
  | .lst ds, _, x => by
    simp only [Rep] at x ⊢
    obtain ⟨a, xs, e, q, r⟩ := x
    exact ⟨a, xs, e, h _ _ q, Reps.mono h r⟩
  | .frl ds, _, x => by
    simp only [Rep] at x ⊢
    obtain ⟨a, xs, e, q, r⟩ := x
    exact ⟨a, xs, e, h.seq q, Reps.mono h r⟩
  | .dk ks ds, _, x => by
    simp only [Rep] at x ⊢
    obtain ⟨a, o, xs, e, q, k, r⟩ := x
    exact ⟨a, o, xs, e, h _ _ q, k, Reps.mono h r⟩
  | .obj c fs, _, x => by
    simp only [Rep] at x ⊢
    obtain ⟨a, dx, vs, e, q, r⟩ := x
    exact ⟨a, dx, vs, e, Same.slt h q, RepSl.mono h r⟩
theorem Reps.mono (h : Same I I') : ∀ {ds : List D} {xs : List V}, Reps T I ds xs → Reps T I' ds xs
  | [], _, x => by simpa only [Reps] using x
  | d :: ds, _, x => by
    simp only [Reps] at x ⊢
    obtain ⟨v, r, e, q, z⟩ := x
    exact ⟨v, r, e, Rep.mono h q, Reps.mono h z⟩
theorem RepSl.mono (h : Same I I') : ∀ {ds : List D} {xs : List (Option V)}, RepSl T I ds xs → RepSl T I' ds xs
  | [], _, _ => by simp only [RepSl]
  | d :: ds, _, x => by
    simp only [RepSl] at x ⊢
    obtain ⟨o, r, e, q, z⟩ := x
    refine ⟨o, r, e, ?_, RepSl.mono h z⟩
    rcases q with q | ⟨v, e, q⟩
    · exact .inl q
    · exact .inr ⟨v, e, Rep.mono h q⟩
end
theorem Reps.len : ∀ {ds : List D} {xs : List V}, Reps T I ds xs → xs.length = ds.length
  | [], xs, x => by
    simp only [Reps] at x
    rw [x]
    rfl
  | d :: ds, xs, x => by
    simp only [Reps] at x
    obtain ⟨v, r, e, q, z⟩ := x
    rw [e]
    simp only [List.length_cons, Reps.len z]
theorem Reps.get : ∀ {ds : List D} {xs : List V} {i : Nat} {d : D}, Reps T I ds xs → ds[i]? = some d → ∃ v, xs[i]? = some v ∧ Rep T I d v
  | [], _, i, d, _, e => by simp at e
  | d :: ds, xs, 0, d', x, e => by
    simp only [Reps] at x
    obtain ⟨v, r, rfl, q, z⟩ := x
    simp at e
    subst e
    exact ⟨v, rfl, q⟩
  | d :: ds, xs, i + 1, d', x, e => by
    simp only [Reps] at x
    obtain ⟨v, r, rfl, q, z⟩ := x
    obtain ⟨w, h1, h2⟩ := Reps.get (i := i) z (by simpa using e)
    exact ⟨w, by simpa using h1, h2⟩
theorem Reps.append : ∀ {ds es : List D} {xs ys : List V}, Reps T I ds xs → Reps T I es ys → Reps T I (ds ++ es) (xs ++ ys)
  | [], es, xs, ys, x, y => by
    simp only [Reps] at x
    subst x
    exact y
  | d :: ds, es, xs, ys, x, y => by
    simp only [Reps] at x
    obtain ⟨v, r, rfl, q, z⟩ := x
    show Reps T I (d :: (ds ++ es)) (v :: (r ++ ys))
    simp only [Reps]
    exact ⟨v, _, rfl, q, Reps.append z y⟩
theorem Reps.nil : Reps T I [] [] := by simp only [Reps]
theorem Reps.cons {d : D} {ds : List D} {v : V} {vs : List V} (h : Rep T I d v) (r : Reps T I ds vs) : Reps T I (d :: ds) (v :: vs) := by
  simp only [Reps]
  exact ⟨v, vs, rfl, h, r⟩
theorem Reps.one {d : D} {v : V} (h : Rep T I d v) : Reps T I [d] [v] := .cons h .nil
theorem Reps.cons_inv {d : D} {ds : List D} {vs : List V} (h : Reps T I (d :: ds) vs) : ∃ v r, vs = v :: r ∧ Rep T I d v ∧ Reps T I ds r := by
  simpa only [Reps] using h
theorem Reps.nil_inv {vs : List V} (h : Reps T I [] vs) : vs = [] := by simpa only [Reps] using h
theorem Reps.take : ∀ {ds : List D} {xs : List V} (n : Nat), Reps T I ds xs → Reps T I (ds.take n) (xs.take n)
  | _, _, 0, _ => by simp [Reps]
  | [], xs, n + 1, x => by
    rw [x.nil_inv]
    simp [Reps]
  | d :: ds, xs, n + 1, x => by
    obtain ⟨v, r, rfl, q, z⟩ := x.cons_inv
    exact .cons q (Reps.take n z)
theorem Reps.drop : ∀ {ds : List D} {xs : List V} (n : Nat), Reps T I ds xs → Reps T I (ds.drop n) (xs.drop n)
  | _, _, 0, x => x
  | [], xs, n + 1, x => by
    rw [x.nil_inv]
    simp [Reps]
  | d :: ds, xs, n + 1, x => by
    obtain ⟨v, r, rfl, q, z⟩ := x.cons_inv
    exact Reps.drop n z
theorem Reps.set : ∀ {ds : List D} {xs : List V} (i : Nat) {d : D} {v : V}, Reps T I ds xs → Rep T I d v → Reps T I (ds.set i d) (xs.set i v)
  | [], xs, i, d, v, x, y => by
    rw [x.nil_inv]
    simp [Reps]
  | e :: ds, xs, 0, d, v, x, y => by
    obtain ⟨w, r, rfl, q, z⟩ := x.cons_inv
    exact .cons y z
  | e :: ds, xs, i + 1, d, v, x, y => by
    obtain ⟨w, r, rfl, q, z⟩ := x.cons_inv
    exact .cons q (Reps.set i z y)
theorem Reps.eraseIdx : ∀ {ds : List D} {xs : List V} (i : Nat), Reps T I ds xs → Reps T I (ds.eraseIdx i) (xs.eraseIdx i)
  | [], xs, i, x => by
    rw [x.nil_inv]
    simp [Reps]
  | e :: ds, xs, 0, x => by
    obtain ⟨w, r, rfl, q, z⟩ := x.cons_inv
    exact z
  | e :: ds, xs, i + 1, x => by
    obtain ⟨w, r, rfl, q, z⟩ := x.cons_inv
    exact .cons q (Reps.eraseIdx i z)
end
end DE
set_option Elab.async false
set_option linter.all false
set_option maxRecDepth 100000
set_option maxHeartbeats 2000000
namespace DE
open PySem PySem.Spec PyProof.Rows L2

/-! ### outcomes -/
/-- an exception: its class's number, what it keeps -/
structure XD where
  cls : Nat
  pay : Option (Str × D)
inductive Out (α : Type) where
  | ok (a : α)
  | exc (x : XD)
  | stuck
instance {α : Type} : Inhabited (Out α) := ⟨.stuck⟩
def Out.bind {α β : Type} (m : Out α) (f : α → Out β) : Out β := match m with
  | .ok a => f a
  | .exc x => .exc x
  | .stuck => .stuck
instance : Monad Out where
  pure := .ok
  bind := Out.bind
@[simp] theorem ok_bind {α β : Type} (a : α) (f : α → Out β) : (Out.ok a >>= f) = f a := rfl
@[simp] theorem exc_bind {α β : Type} (x : XD) (f : α → Out β) : ((Out.exc x : Out α) >>= f) = .exc x := rfl
@[simp] theorem stuck_bind {α β : Type} (f : α → Out β) : ((Out.stuck : Out α) >>= f) = .stuck := rfl
@[simp] theorem pure_ok {α : Type} (a : α) : (pure a : Out α) = .ok a := rfl
theorem bind_okE {α β : Type} {m : Out α} {f : α → Out β} {b : β} (h : (m >>= f) = .ok b) : ∃ a, m = .ok a ∧ f a = .ok b := by
  cases m with
  | ok a => exact ⟨a, rfl, h⟩
  | exc x => cases h
  | stuck => cases h
theorem bind_excE {α β : Type} {m : Out α} {f : α → Out β} {x : XD} (h : (m >>= f) = .exc x) : m = .exc x ∨ ∃ a, m = .ok a ∧ f a = .exc x := by
  cases m with
  | ok a => exact .inr ⟨a, rfl, h⟩
  | exc y => exact .inl (by cases h; rfl)
  | stuck => cases h

/-! ### slots -/
inductive S where
  | imm (d : D)
  | own (d : D)
  | par (d : D)
  | lck (d : D)
  deriving Inhabited
abbrev Dl := List (Option S)
def S.con : S → D
  | .imm d => d
  | .own d => d
  | .par d => d
  | .lck d => d
def S.mut : S → Bool
  | .imm _ => false
  | _ => true
/-- a value at hand: data, or what a slot holds -/
inductive R where
  | imm (d : D)
  | slot (i : Nat)
def res (δ : Dl) : R → Out D
  | .imm d => .ok d
  | .slot i => match δ[i]? with
    | some (some s) => .ok s.con
    | _ => .stuck

/-- the object at p.1 (an instance's own dict at p.2) holds d, its parts written in I -/
def OwnRep (T : Ctx) (I H : Hp) (d : D) (p : Addr × Addr) : Prop := match d with
  | .lst ds => p.2 = p.1 ∧ ∃ xs, H p.1 = some (.lst xs) ∧ Reps T I ds xs
  | .dk ks ds => p.2 = p.1 ∧ ∃ kvs, H p.1 = some (.dK kvs) ∧ kvs.map (·.1) = ks.map kk ∧ Reps T I ds (kvs.map (·.2))
  | .obj c fs => p.2 ≠ p.1 ∧ (∃ o, H p.2 = some o) ∧ ∃ vs, SlX.Slt H p.1 (T.cls c) p.2 vs ∧ RepSl T I fs vs
  | _ => False

/-- the state at a def's entry: the heap, what is written there for good, the slots that callers share (with their objects) -/
structure Amb where
  H0 : Hp
  I0 : Hp
  ex : List (Nat × Addr × Addr)
  lk : List (Nat × (Addr × Addr) × D × Option HO) := []
abbrev Pl := Nat → Addr × Addr
def fpt (A : Pl) (i : Nat) (b : Addr) : Prop := b = (A i).1 ∨ b = (A i).2
def mutAt (δ : Dl) (i : Nat) : Prop := ∃ s, δ[i]? = some (some s) ∧ s.mut = true

def SlotOk (T : Ctx) (M : Amb) (A : Pl) (I H : Hp) (i : Nat) (v : Option (Option V)) : S → Prop
  | .imm d => ∃ x, v = some (some x) ∧ Rep T I d x
  | .own d => v = some (some (.ref (A i).1)) ∧ OwnRep T I H d (A i) ∧ ∀ b, fpt A i b → I b = none ∧ M.H0 b = none
  | .par d => v = some (some (.ref (A i).1)) ∧ OwnRep T I H d (A i) ∧ (∀ b, fpt A i b → I b = none) ∧ (i, A i) ∈ M.ex
  | .lck d => v = some (some (.ref (A i).1)) ∧ OwnRep T I H d (A i) ∧ (∀ b, fpt A i b → I b = none ∧ M.H0 b = none) ∧ (i, A i, d, H (A i).1) ∈ M.lk
structure Ok (T : Ctx) (M : Amb) (A : Pl) (I : Hp) (σ : L2.St) (H : Hp) (δ : Dl) : Prop where
  sub : Same I H
  gro : Same M.I0 I
  fre : ∀ b o, I b = some o → M.I0 b = some o ∨ M.H0 b = none
  kee : ∀ b o, M.H0 b = some o → (∀ p ∈ M.ex, b ≠ p.2.1 ∧ b ≠ p.2.2) → H b = some o
  len : σ.length = δ.length
  sl : ∀ i s, δ[i]? = some (some s) → SlotOk T M A I H i σ[i]? s
  inj : ∀ i j b, mutAt δ i → mutAt δ j → fpt A i b → fpt A j b → i = j
  prs : ∀ p ∈ M.ex, (∃ d, δ[p.1]? = some (some (.par d))) ∧ A p.1 = p.2
  lks : ∀ p ∈ M.lk, δ[p.1]? = some (some (.lck p.2.2.1)) ∧ A p.1 = p.2.1
/-- what an expression may do -/
structure Stp (A : Pl) (δ : Dl) (I H : Hp) (δ' : Dl) (I' H' : Hp) : Prop where
  gro : Same I I'
  fre : ∀ b o, I' b = some o → I b = some o ∨ H b = none ∨ ∃ i, mutAt δ i ∧ fpt A i b
  kee : ∀ b o, H b = some o → (∀ i, mutAt δ i → ¬ fpt A i b) → H' b = some o
  mon : ∀ i, mutAt δ' i → mutAt δ i
  dom : ∀ b o, H b = some o → ∃ o', H' b = some o'
theorem Stp.refl {A : Pl} {δ : Dl} {I H : Hp} : Stp A δ I H δ I H := ⟨.refl _, fun _ _ h => .inl h, fun _ _ h _ => h, fun _ h => h, fun _ o h => ⟨o, h⟩⟩
theorem Stp.trans {A : Pl} {δ δ1 δ2 : Dl} {I H I1 H1 I2 H2 : Hp} (a : Stp A δ I H δ1 I1 H1) (b : Stp A δ1 I1 H1 δ2 I2 H2) : Stp A δ I H δ2 I2 H2 where
  gro := a.gro.trans b.gro
  fre := fun c o h => by
    rcases b.fre c o h with h | h | ⟨i, h, f⟩
    · exact a.fre c o h
    · refine .inr (.inl ?_)
      cases q : H c with
      | none => rfl
      | some u =>
        obtain ⟨u', q'⟩ := a.dom c u q
        rw [h] at q'
        cases q'
    · exact .inr (.inr ⟨i, a.mon i h, f⟩)
  kee := fun c o h n => b.kee c o (a.kee c o h n) fun i hi => n i (a.mon i hi)
  mon := fun i h => a.mon i (b.mon i h)
  dom := fun c o h => by
    obtain ⟨o1, h1⟩ := a.dom c o h
    exact b.dom c o1 h1
/-- new things alone -/
structure New (I H I' H' : Hp) : Prop where
  gro : Same I I'
  sub : Same I' H'
  kee : Same H H'
  fre : ∀ b o, I' b = some o → I b = some o ∨ H b = none
theorem New.refl {I H : Hp} (s : Same I H) : New I H I H := ⟨.refl _, s, .refl _, fun _ _ h => .inl h⟩
theorem New.trans {I H I1 H1 I2 H2 : Hp} (a : New I H I1 H1) (b : New I1 H1 I2 H2) : New I H I2 H2 :=
  ⟨a.gro.trans b.gro, b.sub, a.kee.trans b.kee, fun c o h => by
    rcases b.fre c o h with h | h
    · exact a.fre c o h
    · exact .inr (a.kee.free h)⟩
theorem same_upd {H : Hp} {p : Addr} {o : HO} (h : H p = none) : Same H (upd H p o) := fun b x e => by
  rw [upd_ne (ne_of_none e h)]
  exact e
theorem Same.upd {I H : Hp} {p : Addr} {o : HO} (s : Same I H) : Same (upd I p o) (upd H p o) := fun b x e => by
  by_cases hb : b = p
  · subst hb
    rw [upd_same] at e ⊢
    exact e
  · rw [upd_ne hb] at e ⊢
    exact s _ _ e
theorem New.upd {I H : Hp} {p : Addr} {o : HO} (s : Same I H) (h : H p = none) : New I H (upd I p o) (upd H p o) :=
  ⟨same_upd (s.free h), Same.upd s, same_upd h, fun b x e => by
    by_cases hb : b = p
    · subst hb
      exact .inr h
    · rw [upd_ne hb] at e
      exact .inl e⟩

/-- an exception's data -/
def XRep (T : Ctx) (I H : Hp) (x : XD) (cls : Value) (dx : Option Addr) : Prop :=
  cls = .ref (T.cls x.cls) ∧ match x.pay with
  | none => True
  | some (f, d) => ∃ a v, dx = some a ∧ H a = some (.xd [(f, v)]) ∧ Rep T I d v
def XOk (T : Ctx) (M : Amb) (x : XD) (cls : Value) (dx : Option Addr) (H' : Hp) : Prop :=
  ∃ I', Same M.I0 I' ∧ (∀ b o, I' b = some o → M.I0 b = some o ∨ M.H0 b = none) ∧ Same I' H' ∧ (∀ b o, M.H0 b = some o → (∀ p ∈ M.ex, b ≠ p.2.1 ∧ b ≠ p.2.2) → H' b = some o) ∧ XRep T I' H' x cls dx

def RepR (T : Ctx) (I : Hp) (σ : L2.St) : R → V → Prop
  | .imm d, v => Rep T I d v
  | .slot i, v => σ[i]? = some (some v)
def RepRs (T : Ctx) (I : Hp) (σ : L2.St) : List R → List V → Prop
  | [], vs => vs = []
  | r :: rs, vs => ∃ v ws, vs = v :: ws ∧ RepR T I σ r v ∧ RepRs T I σ rs ws
theorem RepR.mono {T : Ctx} {I I' : Hp} {σ : L2.St} {r : R} {v : V} (h : Same I I') (x : RepR T I σ r v) : RepR T I' σ r v := by
  cases r with
  | imm d => exact Rep.mono h x
  | slot i => exact x

/-- a way on: what is wanted of an outcome -/
def Wants {α : Type} (T : Ctx) (M : Amb) (E : XK) (m : Out α) (k : α → Prop) : Prop := match m with
  | .ok a => k a
  | .exc x => ∀ cls dx H', XOk T M x cls dx H' → E cls dx H'
  | .stuck => False
theorem Wants.bind {α β : Type} {T : Ctx} {M : Amb} {E : XK} {m : Out α} {f : α → Out β} {k : β → Prop} (h : Wants T M E (m >>= f) k) : Wants T M E m fun a => Wants T M E (f a) k := by
  cases m with
  | ok a => exact h
  | exc x => exact h
  | stuck => exact h
theorem Wants.imp {α : Type} {T : Ctx} {M : Amb} {E : XK} {m : Out α} {k k' : α → Prop} (h : Wants T M E m k) (hk : ∀ a, m = .ok a → k a → k' a) : Wants T M E m k' := by
  cases m with
  | ok a => exact hk a rfl h
  | exc x => exact h
  | stuck => exact h

abbrev FE := Dl → Out (R × Dl)
abbrev FT := Dl → Out (Bool × Dl)
abbrev FA := Dl → Out (List R × Dl)
def tE (T : Ctx) (E : XK) (f : FE) : TE := fun σ H Q => ∃ M A I δ, Ok T M A I σ H δ ∧
  Wants T M E (f δ) fun (r, δ') => ∀ v I' H', Ok T M A I' σ H' δ' → Stp A δ I H δ' I' H' → RepR T I' σ r v → Q v H'
def tT (T : Ctx) (E : XK) (f : FT) : TT := fun σ H Q => ∃ M A I δ, Ok T M A I σ H δ ∧
  Wants T M E (f δ) fun (c, δ') => ∀ I' H', Ok T M A I' σ H' δ' → Stp A δ I H δ' I' H' → Q c H'
def tA (T : Ctx) (E : XK) (f : FA) : TA := fun σ H Q => ∃ M A I δ, Ok T M A I σ H δ ∧
  Wants T M E (f δ) fun (rs, δ') => ∀ vs I' H', Ok T M A I' σ H' δ' → Stp A δ I H δ' I' H' → RepRs T I' σ rs vs → Q vs H'

inductive Fl where
  | nx
  | rt (s : S)
  | bk
  | ct
abbrev FS := Dl → Out (Fl × Dl)
/-- what a def hands back -/
def RetOk (T : Ctx) (M : Amb) (A : Pl) (I H : Hp) (δ : Dl) (v : V) : S → Prop
  | .imm d => Rep T I d v
  | .own d => ∃ p : Addr × Addr, v = .ref p.1 ∧ OwnRep T I H d p ∧ (∀ b, b = p.1 ∨ b = p.2 → I b = none ∧ M.H0 b = none ∧ ∀ q ∈ M.ex, b ≠ q.2.1 ∧ b ≠ q.2.2)
  | _ => False
def tS (T : Ctx) (E : XK) (f : FS) : TS := fun D σ H => ∃ M A I δ, Ok T M A I σ H δ ∧
  Wants T M E (f δ) fun (l, δ') => match l with
    | .nx => ∀ A' I' σ' H', Ok T M A' I' σ' H' δ' → D.nx σ' H'
    | .bk => ∀ A' I' σ' H', Ok T M A' I' σ' H' δ' → D.bk σ' H'
    | .ct => ∀ A' I' σ' H', Ok T M A' I' σ' H' δ' → D.ct σ' H'
    | .rt s => ∀ A' I' σ' H' v, Ok T M A' I' σ' H' δ' → RetOk T M A' I' H' δ' v s → D.rt v H'

/-! ### the judgements -/
abbrev DE (T : Ctx) (X : Cx) (E : XK) (e : Expr) (f : FE) : Prop := PE X e (tE T E f)
abbrev DT (T : Ctx) (X : Cx) (E : XK) (e : Expr) (f : FT) : Prop := PT X e (tT T E f)
abbrev DW (T : Ctx) (X : Cx) (E : XK) (e : Expr) (f : FT) : Prop := PW X e (tT T E f)
abbrev DA (T : Ctx) (X : Cx) (E : XK) (es : List Expr) (f : FA) : Prop := PA X es (tA T E f)
abbrev DS (T : Ctx) (X : Cx) (E : XK) (s : Stmt) (f : FS) : Prop := PS X s (tS T E f)
abbrev DSs (T : Ctx) (X : Cx) (E : XK) (ss : List Stmt) (f : FS) : Prop := PSs X ss (tS T E f)
theorem PE.of {X : Cx} {e : Expr} {t t' : TE} (h : PE X e t) (w : ∀ σ H Q, t' σ H Q → t σ H Q) : PE X e t' := ⟨fun pins s σ H Q I q => h.run pins s σ H Q I (w _ _ _ q)⟩
theorem PT.of {X : Cx} {e : Expr} {t t' : TT} (h : PT X e t) (w : ∀ σ H Q, t' σ H Q → t σ H Q) : PT X e t' := ⟨fun pins s σ H Q I q => h.run pins s σ H Q I (w _ _ _ q)⟩
theorem PW.of {X : Cx} {e : Expr} {t t' : TT} (h : PW X e t) (w : ∀ σ H Q, t' σ H Q → t σ H Q) : PW X e t' := ⟨fun wh pins s σ H Q I q => h.run wh pins s σ H Q I (w _ _ _ q)⟩
theorem PA.of {X : Cx} {e : List Expr} {t t' : TA} (h : PA X e t) (w : ∀ σ H Q, t' σ H Q → t σ H Q) : PA X e t' := ⟨fun pos pins s σ H Q I q => h.run pos pins s σ H Q I (w _ _ _ q)⟩
theorem PS.of {X : Cx} {e : Stmt} {t t' : TS} (h : PS X e t) (w : ∀ D σ H, t' D σ H → t D σ H) : PS X e t' := ⟨fun pins s σ H D I q => h.run pins s σ H D I (w _ _ _ q)⟩
theorem PSs.of {X : Cx} {e : List Stmt} {t t' : TS} (h : PSs X e t) (w : ∀ D σ H, t' D σ H → t D σ H) : PSs X e t' := ⟨fun pins s σ H D I q => h.run pins s σ H D I (w _ _ _ q)⟩

section
variable {T : Ctx} {M : Amb} {A : Pl} {I H I' H' : Hp} {σ : L2.St} {δ δ' : Dl} {E : XK}
/-- new things: the state stays -/
theorem OwnRep.new {d : D} {p : Addr × Addr} (o : OwnRep T I H d p) (hI : Same I I') (hH : ∀ b u, (b = p.1 ∨ b = p.2) → H b = some u → H' b = some u) : OwnRep T I' H' d p := by
  cases d with
  | lst ds =>
    obtain ⟨e, xs, h, r⟩ := o
    exact ⟨e, xs, hH _ _ (.inl rfl) h, Reps.mono hI r⟩
  | dk ks ds =>
    obtain ⟨e, kvs, h, k, r⟩ := o
    exact ⟨e, kvs, hH _ _ (.inl rfl) h, k, Reps.mono hI r⟩
  | obj c fs =>
    obtain ⟨e, ⟨u, hu⟩, vs, h, r⟩ := o
    refine ⟨e, ⟨u, hH _ _ (.inr rfl) hu⟩, vs, ?_, RepSl.mono hI r⟩
    rcases h with ⟨h1, h2⟩ | ⟨h1, h2⟩
    · exact .inl ⟨hH _ _ (.inl rfl) h1, h2⟩
    · exact .inr ⟨hH _ _ (.inl rfl) h1, hH _ _ (.inr rfl) h2⟩
  | _ => exact o
theorem OwnRep.there {d : D} {p : Addr × Addr} (o : OwnRep T I H d p) : (∃ u, H p.1 = some u) ∧ ∃ u, H p.2 = some u := by
  cases d with
  | lst ds =>
    obtain ⟨e, xs, h, r⟩ := o
    exact ⟨⟨_, h⟩, by rw [e]; exact ⟨_, h⟩⟩
  | dk ks ds =>
    obtain ⟨e, kvs, h, k, r⟩ := o
    exact ⟨⟨_, h⟩, by rw [e]; exact ⟨_, h⟩⟩
  | obj c fs =>
    obtain ⟨e, hu, vs, h, r⟩ := o
    rcases h with ⟨h1, h2⟩ | ⟨h1, h2⟩
    · exact ⟨⟨_, h1⟩, hu⟩
    · exact ⟨⟨_, h1⟩, hu⟩
  | undef => exact o.elim
  | non => exact o.elim
  | bl b => exact o.elim
  | int b => exact o.elim
  | str b => exact o.elim
  | tup b => exact o.elim
  | frl b => exact o.elim
  | kls b => exact o.elim
theorem OwnRep.fp {d : D} {i : Nat} {b : Addr} (o : OwnRep T I H d (A i)) (h : fpt A i b) : ∃ u, H b = some u := by
  rcases h with rfl | rfl
  · exact o.there.1
  · exact o.there.2
theorem OwnRep.root {d : D} {p : Addr × Addr} (o : OwnRep T I H d p) (k : ∀ u, H p.1 = some u → H' p.1 = some u) : H' p.1 = H p.1 := by
  obtain ⟨⟨u, hu⟩, _⟩ := o.there
  rw [hu, k u hu]
theorem Ok.new (x : Ok T M A I σ H δ) (n : New I H I' H') : Ok T M A I' σ H' δ where
  sub := n.sub
  gro := x.gro.trans n.gro
  fre := fun b o h => by
    rcases n.fre b o h with h | h
    · exact x.fre b o h
    · refine .inr ?_
      cases q : M.H0 b with
      | none => rfl
      | some u =>
        have : ∀ p ∈ M.ex, b ≠ p.2.1 ∧ b ≠ p.2.2 := fun p hp => by
          obtain ⟨⟨d, e⟩, ea⟩ := x.prs p hp
          obtain ⟨_, ow, _, _⟩ := x.sl _ _ e
          rw [ea] at ow
          obtain ⟨⟨u1, h1⟩, ⟨u2, h2⟩⟩ := ow.there
          refine ⟨fun z => ?_, fun z => ?_⟩
          · rw [z, h1] at h; cases h
          · rw [z, h2] at h; cases h
        have z := x.kee b u q this
        rw [h] at z
        cases z
  kee := fun b o h hn => n.kee _ _ (x.kee b o h hn)
  len := x.len
  sl := fun i s e => by
    have z := x.sl i s e
    cases s with
    | imm d =>
      obtain ⟨v, h1, h2⟩ := z
      exact ⟨v, h1, h2.mono n.gro⟩
    | own d =>
      obtain ⟨h1, h2, h3⟩ := z
      refine ⟨h1, h2.new n.gro fun b u _ q => n.kee _ _ q, fun b hb => ⟨?_, (h3 b hb).2⟩⟩
      cases q : I' b with
      | none => rfl
      | some o =>
        obtain ⟨u, hu⟩ := h2.fp hb
        rcases n.fre b o q with z | z
        · rw [(h3 b hb).1] at z; cases z
        · rw [hu] at z; cases z
    | par d =>
      obtain ⟨h1, h2, h3, h4⟩ := z
      refine ⟨h1, h2.new n.gro fun b u _ q => n.kee _ _ q, fun b hb => ?_, h4⟩
      cases q : I' b with
      | none => rfl
      | some o =>
        obtain ⟨u, hu⟩ := h2.fp hb
        rcases n.fre b o q with z | z
        · rw [h3 b hb] at z; cases z
        · rw [hu] at z; cases z
    | lck d =>
      obtain ⟨h1, h2, h3, h4⟩ := z
      refine ⟨h1, h2.new n.gro fun b u _ q => n.kee _ _ q, fun b hb => ⟨?_, (h3 b hb).2⟩, by rw [h2.root fun u q => n.kee _ _ q]; exact h4⟩
      cases q : I' b with
      | none => rfl
      | some o =>
        obtain ⟨u, hu⟩ := h2.fp hb
        rcases n.fre b o q with z | z
        · rw [(h3 b hb).1] at z; cases z
        · rw [hu] at z; cases z
  inj := x.inj
  prs := x.prs
  lks := x.lks
theorem New.stp (n : New I H I' H') : Stp A δ I H δ I' H' := ⟨n.gro, fun b o h => by
  rcases n.fre b o h with z | z
  · exact .inl z
  · exact .inr (.inl z), fun b o h _ => n.kee _ _ h, fun _ h => h, fun b o h => ⟨o, n.kee _ _ h⟩⟩

/-- what can be read now -/
def Red (T : Ctx) (I H : Hp) (d : D) (v : V) : Prop := Rep T I d v ∨ ∃ p : Addr × Addr, v = .ref p.1 ∧ OwnRep T I H d p
theorem Ok.red (x : Ok T M A I σ H δ) {r : R} {v : V} {d : D} (h : RepR T I σ r v) (e : res δ r = .ok d) : Red T I H d v := by
  cases r with
  | imm d' =>
    cases e
    exact .inl h
  | slot i =>
    simp only [res] at e
    split at e
    · rename_i s hs
      cases e
      have z := x.sl i s hs
      have h : σ[i]? = some (some v) := h
      cases s with
      | imm d' =>
        obtain ⟨w, h1, h2⟩ := z
        rw [h] at h1
        cases h1
        exact .inl h2
      | own d' =>
        obtain ⟨h1, h2, _⟩ := z
        rw [h] at h1
        cases h1
        exact .inr ⟨A i, rfl, h2⟩
      | par d' =>
        obtain ⟨h1, h2, _⟩ := z
        rw [h] at h1
        cases h1
        exact .inr ⟨A i, rfl, h2⟩
      | lck d' =>
        obtain ⟨h1, h2, _⟩ := z
        rw [h] at h1
        cases h1
        exact .inr ⟨A i, rfl, h2⟩
    · cases e
end
end DE
set_option Elab.async false
set_option linter.all false
set_option maxRecDepth 100000
set_option maxHeartbeats 2000000
namespace DE
open PySem PySem.Spec PyProof.Rows L2

theorem line_eq : (sizeLine : Nat) = 16777216 := sizeLine_eq
def lim (n : Nat) : Prop := n ≤ 16777216
instance (n : Nat) : Decidable (lim n) := inferInstanceAs (Decidable (n ≤ 16777216))
theorem lim.le {n : Nat} (h : lim n) : n ≤ sizeLine := by rw [line_eq]; exact h
def ofO {α : Type} : Option α → Out α
  | some a => .ok a
  | none => .stuck
@[simp] theorem ofO_some {α : Type} (a : α) : ofO (some a) = .ok a := rfl
@[simp] theorem ofO_none {α : Type} : ofO (none : Option α) = .stuck := rfl
theorem ofO_ok {α : Type} {o : Option α} {a : α} (h : ofO o = .ok a) : o = some a := by
  cases o with
  | some b => cases h; rfl
  | none => cases h
theorem ofO_exc {α : Type} {o : Option α} {x : XD} (h : ofO o = .exc x) : False := by
  cases o with
  | some b => cases h
  | none => cases h
theorem res_exc {δ : Dl} {r : R} {x : XD} (h : res δ r = .exc x) : False := by
  cases r with
  | imm d => cases h
  | slot i =>
    simp only [res] at h
    split at h <;> cases h
@[simp] theorem mkS_length (l : List Ch) : (mkS l).length = l.length := by simp [mkS, Str.length]
@[simp] theorem mkS_cps (l : List Ch) : (mkS l).cps.toList = l.map Fin.val := by simp [mkS]
theorem mkS_app (a b : List Ch) : mkS a ++ mkS b = mkS (a ++ b) := by
  show Str.mk _ = Str.mk _
  simp
theorem mkS_inj {a b : List Ch} (h : mkS a = mkS b) : a = b := by
  have := congrArg (fun z : Str => z.cps.toList) h
  simp only [mkS_cps] at this
  exact (List.map_inj_right fun x y h => Fin.ext h).mp this
theorem mkS_eq {a b : List Ch} : mkS a = mkS b ↔ a = b := ⟨mkS_inj, fun h => by rw [h]⟩

section
variable {T : Ctx} {I H : Hp} {v : V}
theorem Rep.int_inv {i : Int} (h : Rep T I (.int i) v) : v = .int i := by simpa only [Rep] using h
theorem Rep.bl_inv {i : Bool} (h : Rep T I (.bl i) v) : v = .bl i := by simpa only [Rep] using h
theorem Rep.str_inv {i : List Ch} (h : Rep T I (.str i) v) : v = .str (mkS i) := by simpa only [Rep] using h
theorem Rep.non_inv (h : Rep T I .non v) : v = .non := by simpa only [Rep] using h
theorem Rep.tup_inv {ds : List D} (h : Rep T I (.tup ds) v) : ∃ a xs, v = .ref a ∧ SqT T.K I a xs ∧ Reps T I ds xs := by simpa only [Rep] using h
theorem Rep.lst_inv {ds : List D} (h : Rep T I (.lst ds) v) : ∃ a xs, v = .ref a ∧ I a = some (.lst xs) ∧ Reps T I ds xs := by simpa only [Rep] using h
theorem Rep.frl_inv {ds : List D} (h : Rep T I (.frl ds) v) : ∃ a xs, v = .ref a ∧ SqL T.K I a xs ∧ Reps T I ds xs := by simpa only [Rep] using h
theorem Rep.dk_inv {ks : List DK} {ds : List D} (h : Rep T I (.dk ks ds) v) : ∃ a o kvs, v = .ref a ∧ I a = some (.frz o (.dK kvs)) ∧ kvs.map (·.1) = ks.map kk ∧ Reps T I ds (kvs.map (·.2)) := by simpa only [Rep] using h
theorem Rep.obj_inv {c : Nat} {fs : List D} (h : Rep T I (.obj c fs) v) : ∃ a dx vs, v = .ref a ∧ SlX.Slt I a (T.cls c) dx vs ∧ RepSl T I fs vs := by simpa only [Rep] using h
theorem Rep.ofint {i : Int} : Rep T I (.int i) (.int i) := by simp only [Rep]
theorem Rep.ofbl {i : Bool} : Rep T I (.bl i) (.bl i) := by simp only [Rep]
theorem Rep.ofstr {i : List Ch} : Rep T I (.str i) (.str (mkS i)) := by simp only [Rep]
theorem Rep.ofnon : Rep T I .non .non := by simp only [Rep]
theorem Rep.oftup {ds : List D} {a : Addr} {xs : List V} (h : SqT T.K I a xs) (r : Reps T I ds xs) : Rep T I (.tup ds) (.ref a) := by simp only [Rep]; exact ⟨a, xs, rfl, h, r⟩
theorem Rep.oflst {ds : List D} {a : Addr} {xs : List V} (h : I a = some (.lst xs)) (r : Reps T I ds xs) : Rep T I (.lst ds) (.ref a) := by simp only [Rep]; exact ⟨a, xs, rfl, h, r⟩
theorem Rep.ofdk {ks : List DK} {ds : List D} {a : Addr} {kvs : List (Key × V)} {o : Obj} (h : I a = some (.frz o (.dK kvs))) (k : kvs.map (·.1) = ks.map kk) (r : Reps T I ds (kvs.map (·.2))) : Rep T I (.dk ks ds) (.ref a) := by simp only [Rep]; exact ⟨a, o, kvs, rfl, h, k, r⟩
theorem Red.int_inv {i : Int} (h : Red T I H (.int i) v) : v = .int i := by
  rcases h with h | ⟨_, _, h⟩
  · exact h.int_inv
  · exact h.elim
theorem Red.bl_inv {i : Bool} (h : Red T I H (.bl i) v) : v = .bl i := by
  rcases h with h | ⟨_, _, h⟩
  · exact h.bl_inv
  · exact h.elim
theorem Red.str_inv {i : List Ch} (h : Red T I H (.str i) v) : v = .str (mkS i) := by
  rcases h with h | ⟨_, _, h⟩
  · exact h.str_inv
  · exact h.elim
theorem Red.non_inv (h : Red T I H .non v) : v = .non := by
  rcases h with h | ⟨_, _, h⟩
  · exact h.non_inv
  · exact h.elim
theorem Red.tup_inv (s : Same I H) {ds : List D} (h : Red T I H (.tup ds) v) : ∃ a xs, v = .ref a ∧ SqT T.K H a xs ∧ Reps T I ds xs := by
  rcases h with h | ⟨_, _, h⟩
  · obtain ⟨a, xs, e, q, r⟩ := h.tup_inv
    exact ⟨a, xs, e, Same.sqt s q, r⟩
  · exact h.elim
theorem Red.tup_inv2 {ds : List D} (h : Red T I H (.tup ds) v) : Rep T I (.tup ds) v := by
  rcases h with h | ⟨_, _, h⟩
  · exact h
  · exact h.elim
theorem Red.lst_inv (s : Same I H) {ds : List D} (h : Red T I H (.lst ds) v) : ∃ a xs, v = .ref a ∧ H a = some (.lst xs) ∧ Reps T I ds xs := by
  rcases h with h | ⟨p, e, _, xs, h, r⟩
  · obtain ⟨a, xs, e, q, r⟩ := h.lst_inv
    exact ⟨a, xs, e, s _ _ q, r⟩
  · exact ⟨p.1, xs, e, h, r⟩
theorem Red.frl_inv (s : Same I H) {ds : List D} (h : Red T I H (.frl ds) v) : ∃ a xs, v = .ref a ∧ SqL T.K H a xs ∧ Reps T I ds xs := by
  rcases h with h | ⟨_, _, h⟩
  · obtain ⟨a, xs, e, q, r⟩ := h.frl_inv
    exact ⟨a, xs, e, s.seq q, r⟩
  · exact h.elim
theorem Red.dk_inv (s : Same I H) {ks : List DK} {ds : List D} (h : Red T I H (.dk ks ds) v) : ∃ a kvs, v = .ref a ∧ Rd H a (.dK kvs) ∧ kvs.map (·.1) = ks.map kk ∧ Reps T I ds (kvs.map (·.2)) := by
  rcases h with h | ⟨p, e, _, xs, h, k, r⟩
  · obtain ⟨a, o, xs, e, q, k, r⟩ := h.dk_inv
    exact ⟨a, xs, e, .inr ⟨o, s _ _ q⟩, k, r⟩
  · exact ⟨p.1, xs, e, .inl h, k, r⟩
theorem Red.obj_inv (s : Same I H) {c : Nat} {fs : List D} (h : Red T I H (.obj c fs) v) : ∃ a dx vs, v = .ref a ∧ SlX.Slt H a (T.cls c) dx vs ∧ RepSl T I fs vs := by
  rcases h with h | ⟨p, e, _, _, xs, h, r⟩
  · obtain ⟨a, dx, xs, e, q, r⟩ := h.obj_inv
    exact ⟨a, dx, xs, e, Same.slt s q, r⟩
  · exact ⟨p.1, p.2, xs, e, h, r⟩
theorem new_lst {ds : List D} {xs : List V} {p : Addr} (s : Same I H) (r : Reps T I ds xs) (h : H p = none) : New I H (upd I p (.lst xs)) (upd H p (.lst xs)) ∧ Rep T (upd I p (.lst xs)) (.lst ds) (.ref p) :=
  have n := New.upd (o := .lst xs) s h
  ⟨n, .oflst upd_same (Reps.mono n.gro r)⟩
theorem new_tup {ds : List D} {xs : List V} {p : Addr} (s : Same I H) (r : Reps T I ds xs) (h : H p = none) : New I H (upd I p (.tup xs)) (upd H p (.tup xs)) ∧ Rep T (upd I p (.tup xs)) (.tup ds) (.ref p) :=
  have n := New.upd (o := .tup xs) s h
  ⟨n, .oftup (.of upd_same) (Reps.mono n.gro r)⟩
end

theorem RepR.get {T : Ctx} {I : Hp} {σ : L2.St} {d : D} {v : V} (h : RepR T I σ (.imm d) v) : Rep T I d v := h
theorem RepR.of {T : Ctx} {I : Hp} {σ : L2.St} {d : D} {v : V} (h : Rep T I d v) : RepR T I σ (.imm d) v := h
/-! ### names and constants -/
def readF (i : Nat) : FE := fun δ => match δ[i]? with
  | some (some (.imm d)) => .ok (.imm d, δ)
  | some (some _) => .ok (.slot i, δ)
  | _ => .stuck
def cstF (d : D) : FE := fun δ => .ok (.imm d, δ)
section
variable {T : Ctx} {X : Cx} {E : XK} {e a b : Expr} {es : List Expr} {pos : Pos}
theorem de_name {i : Nat} (h : PE X e (tVar i)) : DE T X E e (readF i) := PE.of h fun σ H Q ⟨M, A, I, δ, ok, w⟩ => by
  unfold readF at w
  split at w
  · rename_i d hd
    obtain ⟨v, hv, r⟩ := ok.sl i _ hd
    exact ⟨v, hv, w v I H ok .refl r⟩
  · rename_i s hn hs
    have z := ok.sl i s hs
    cases s with
    | imm d => exact (hn d rfl).elim
    | own d => exact ⟨_, z.1, w _ I H ok .refl z.1⟩
    | par d => exact ⟨_, z.1, w _ I H ok .refl z.1⟩
    | lck d => exact ⟨_, z.1, w _ I H ok .refl z.1⟩
  · exact w.elim
theorem de_c {v : V} {d : D} (h : PE X e (tC v)) (r : ∀ I, Rep T I d v) : DE T X E e (cstF d) := PE.of h fun σ H Q ⟨M, A, I, δ, ok, w⟩ => w v I H ok .refl (r I)
theorem de_int {i : Int} {j} : DE T X E (.Constant (.int i) j pos) (cstF (.int i)) := de_c pe_int fun _ => .ofint
theorem de_bl {i : Bool} {j} : DE T X E (.Constant (.bool i) j pos) (cstF (.bl i)) := de_c pe_bl fun _ => .ofbl
theorem de_non {j} : DE T X E (.Constant .none j pos) (cstF .non) := de_c pe_non fun _ => .ofnon
theorem de_str {x : Str} {l : List Ch} {j} (h : x = mkS l := by first | rfl | decide +kernel) : DE T X E (.Constant (.str x) j pos) (cstF (.str l)) := de_c pe_str fun _ => by rw [h]; exact .ofstr

/-! ### operators -/
def op2F (g : D → D → Option D) (fa fb : FE) : FE := fun δ => do
  let (r1, δ1) ← fa δ
  let (r2, δ2) ← fb δ1
  let d1 ← res δ2 r1
  let d2 ← res δ2 r2
  let d ← ofO (g d1 d2)
  pure (.imm d, δ2)
def op1F (g : D → Option D) (fa : FE) : FE := fun δ => do
  let (r1, δ1) ← fa δ
  let d1 ← res δ1 r1
  let d ← ofO (g d1)
  pure (.imm d, δ1)
def G2 (T : Ctx) (r : R2) (g : D → D → Option D) : Prop := ∀ {I H : Hp} {d1 d2 d : D} {v1 v2 : V} {Q : VK}, Same I H → Red T I H d1 v1 → Red T I H d2 v2 → g d1 d2 = some d →
  (∀ v I' H', New I H I' H' → Rep T I' d v → Q v H') → r v1 v2 H Q
def G1 (T : Ctx) (r : V → Hp → VK → Prop) (g : D → Option D) : Prop := ∀ {I H : Hp} {d1 d : D} {v1 : V} {Q : VK}, Same I H → Red T I H d1 v1 → g d1 = some d →
  (∀ v I' H', New I H I' H' → Rep T I' d v → Q v H') → r v1 H Q
theorem tOp_of {r : R2} {g : D → D → Option D} {fa fb : FE} (hg : G2 T r g) {σ : L2.St} {H : Hp} {Q : VK} (h : tE T E (op2F g fa fb) σ H Q) : tOp r (tE T E fa) (tE T E fb) σ H Q := by
  obtain ⟨M, A, I, δ, ok, w⟩ := h
  refine ⟨M, A, I, δ, ok, w.bind.imp fun (r1, δ1) e1 w1 v1 I1 H1 ok1 st1 rr1 => ?_⟩
  refine ⟨M, A, I1, δ1, ok1, w1.bind.imp fun (r2, δ2) e2 w2 v2 I2 H2 ok2 st2 rr2 => ?_⟩
  replace w2 : Wants T M E (res δ2 r1 >>= fun d1 => res δ2 r2 >>= fun d2 => ofO (g d1 d2) >>= fun d => pure (R.imm d, δ2)) _ := w2
  cases q1 : res δ2 r1 with
  | stuck => rw [q1] at w2; exact w2.elim
  | exc x => exact (res_exc q1).elim
  | ok d1 =>
    rw [q1] at w2
    cases q2 : res δ2 r2 with
    | stuck => simp only [ok_bind, q2] at w2; exact w2.elim
    | exc x => exact (res_exc q2).elim
    | ok d2 =>
      simp only [ok_bind, q2] at w2
      cases q3 : g d1 d2 with
      | none => rw [q3] at w2; exact w2.elim
      | some d =>
        rw [q3] at w2
        exact hg ok2.sub (ok2.red (rr1.mono st2.gro) q1) (ok2.red rr2 q2) q3 fun v I' H' n rv => w2 v I' H' (ok2.new n) ((st1.trans st2).trans n.stp) rv
theorem de_op {op : Operator} {r : R2} {g : D → D → Option D} {fa fb : FE} (ho : OpR X (binaryOp op) r) (hg : G2 T r g) (ha : DE T X E a fa) (hb : DE T X E b fb) : DE T X E (.BinOp a op b pos) (op2F g fa fb) :=
  PE.of (pe_op ho ha hb) fun _ _ _ h => tOp_of hg h
theorem de_cmp {op : CmpOp} {r : R2} {g : D → D → Option D} {fa fb : FE} (ho : OpR X (compareOp op) r) (hg : G2 T r g) (ha : DE T X E a fa) (hb : DE T X E b fb) (hm : behindInMarks op b = false) : DE T X E (.Compare a [op] [b] pos) (op2F g fa fb) :=
  PE.of (pe_cmpR ho ha hb hm) fun _ _ _ h => tOp_of hg h
theorem de_un {op : UnaryOp} {r : V → Hp → VK → Prop} {g : D → Option D} {fa : FE} (ho : UnR X (unaryOp op) r) (hg : G1 T r g) (ha : DE T X E a fa) : DE T X E (.UnaryOp op a pos) (op1F g fa) :=
  PE.of (pe_un ho ha) fun σ H Q ⟨M, A, I, δ, ok, w⟩ => by
    refine ⟨M, A, I, δ, ok, w.bind.imp fun (r1, δ1) e1 w1 v1 I1 H1 ok1 st1 rr1 => ?_⟩
    replace w1 : Wants T M E (res δ1 r1 >>= fun d1 => ofO (g d1) >>= fun d => pure (R.imm d, δ1)) _ := w1
    cases q1 : res δ1 r1 with
    | stuck => rw [q1] at w1; exact w1.elim
    | exc x => exact (res_exc q1).elim
    | ok d1 =>
      rw [q1] at w1
      cases q3 : g d1 with
      | none => simp only [ok_bind, q3] at w1; exact w1.elim
      | some d =>
        simp only [ok_bind, q3] at w1
        exact hg ok1.sub (ok1.red rr1 q1) q3 fun v I' H' n rv => w1 v I' H' (ok1.new n) (st1.trans n.stp) rv

/-! ### tests -/
/-- a value that is True or False -/
def boolF (f : FE) : FT := fun δ => do
  let (r, δ1) ← f δ
  match r with
  | .imm (.bl k) => pure (k, δ1)
  | _ => .stuck
theorem tTest_of {t : TE} {f : FE} (ht : ∀ {σ H Q}, tE T E f σ H Q → t σ H Q) {σ : L2.St} {H : Hp} {Q : Bool → Hp → Prop} (h : tT T E (boolF f) σ H Q) : tTest t σ H Q := by
  obtain ⟨M, A, I, δ, ok, w⟩ := h
  refine ht ⟨M, A, I, δ, ok, w.bind.imp fun (r1, δ1) e1 w1 v1 I1 H1 ok1 st1 rr1 => ?_⟩
  cases r1 with
  | slot i => exact w1.elim
  | imm d =>
    cases d with
    | bl k => exact ⟨k, rr1.get.bl_inv, w1 I1 H1 ok1 st1⟩
    | _ => exact w1.elim
theorem dt_cmp {op : CmpOp} {r : R2} {g : D → D → Option D} {fa fb : FE} (ho : OpR X (compareOp op) r) (hg : G2 T r g) (ha : DE T X E a fa) (hb : DE T X E b fb) (hm : behindInMarks op b = false) : DT T X E (.Compare a [op] [b] pos) (boolF (op2F g fa fb)) :=
  PT.of (pt_cmpR ho ha hb hm) fun _ _ _ h => tTest_of (fun h => tOp_of hg h) h
def truthD : D → Option Bool
  | .non => some false
  | .bl b => some b
  | .int i => some (i != 0)
  | .str s => if lim s.length then some ((s.length : Int) != 0) else none
  | .lst xs => some (!xs.isEmpty)
  | .tup xs => some (!xs.isEmpty)
  | _ => none
def truthF (f : FE) : FT := fun δ => do
  let (r, δ1) ← f δ
  let d ← res δ1 r
  let k ← ofO (truthD d)
  pure (k, δ1)
theorem isEmpty_reps {I : Hp} {ds : List D} {xs : List V} (r : Reps T I ds xs) : (!xs.isEmpty) = !ds.isEmpty := by
  have := r.len
  cases ds <;> cases xs <;> simp_all
theorem truV_of {K : PySem.W.Frag} (hK : T.K = K) {I H : Hp} {d : D} {v : V} {k : Bool} (s : Same I H) (h : Red T I H d v) (e : truthD d = some k) : TruV K v H k := by
  cases d with
  | non => rw [h.non_inv]; cases e; rfl
  | bl b => rw [h.bl_inv]; cases e; rfl
  | int i => rw [h.int_inv]; cases e; rfl
  | str i =>
    rw [h.str_inv]
    simp only [truthD] at e
    split at e
    · rename_i hl
      cases e
      exact ⟨by rw [mkS_length]; exact hl.le, by rw [mkS_length]⟩
    · cases e
  | lst xs =>
    obtain ⟨a, ys, rfl, q, r⟩ := h.lst_inv s
    cases e
    exact .inl ⟨ys, .of q, (isEmpty_reps r).symm⟩
  | tup xs =>
    obtain ⟨a, ys, rfl, q, r⟩ := h.tup_inv s
    cases e
    exact .inr (.inl ⟨ys, by rw [← hK]; exact q, (isEmpty_reps r).symm⟩)
  | _ => cases e
theorem dt_truth {f : FE} (h : DE T X E e f) (hK : T.K = X.K := by rfl) (he : ∀ whole, isTrue e X.env whole = (do let v ← whole; standAt e.pos; holding [v] (truthy v)) := by intro _; rfl) : DT T X E e (truthF f) :=
  PT.of (pt_truth h he) fun σ H Q ⟨M, A, I, δ, ok, w⟩ => by
    refine ⟨M, A, I, δ, ok, w.bind.imp fun (r1, δ1) e1 w1 v1 I1 H1 ok1 st1 rr1 => ?_⟩
    replace w1 : Wants T M E (res δ1 r1 >>= fun d1 => ofO (truthD d1) >>= fun d => pure (d, δ1)) _ := w1
    cases q1 : res δ1 r1 with
    | stuck => rw [q1] at w1; exact w1.elim
    | exc x => exact (res_exc q1).elim
    | ok d1 =>
      rw [q1] at w1
      cases q3 : truthD d1 with
      | none => simp only [ok_bind, q3] at w1; exact w1.elim
      | some k =>
        simp only [ok_bind, q3] at w1
        exact ⟨k, truV_of hK ok1.sub (ok1.red rr1 q1) q3, w1 I1 H1 ok1 st1⟩
def notT (f : FT) : FT := fun δ => do
  let (k, δ1) ← f δ
  pure (!k, δ1)
def andT (f g : FT) : FT := fun δ => do
  let (k, δ1) ← f δ
  if k then g δ1 else pure (false, δ1)
def orT (f g : FT) : FT := fun δ => do
  let (k, δ1) ← f δ
  if k then pure (true, δ1) else g δ1
theorem dt_not {f : FT} (h : DT T X E a f) : DT T X E (.UnaryOp .Not a pos) (notT f) := PT.of (pt_not h) fun σ H Q ⟨M, A, I, δ, ok, w⟩ =>
  ⟨M, A, I, δ, ok, w.bind.imp fun (k, δ1) e1 w1 I1 H1 ok1 st1 => w1 I1 H1 ok1 st1⟩
theorem dw_and1 {f : FT} (h : DT T X E a f) : DW T X E (.BoolOp .And [a] pos) f := pw_and1 h
theorem dw_or1 {f : FT} (h : DT T X E a f) : DW T X E (.BoolOp .Or [a] pos) f := pw_or1 h
theorem dw_and {f g : FT} {rest : List Expr} (h : DT T X E a f) (hb : DW T X E (.BoolOp .And (b :: rest) pos) g) : DW T X E (.BoolOp .And (a :: b :: rest) pos) (andT f g) :=
  PW.of (pw_and h hb) fun σ H Q ⟨M, A, I, δ, ok, w⟩ => ⟨M, A, I, δ, ok, w.bind.imp fun (k, δ1) e1 w1 I1 H1 ok1 st1 => by
    cases k with
    | true => exact iteT ⟨M, A, I1, δ1, ok1, Wants.imp w1 fun (k2, δ2) e2 w2 I2 H2 ok2 st2 => w2 I2 H2 ok2 (st1.trans st2)⟩
    | false => exact iteF (w1 I1 H1 ok1 st1)⟩
theorem dw_or {f g : FT} {rest : List Expr} (h : DT T X E a f) (hb : DW T X E (.BoolOp .Or (b :: rest) pos) g) : DW T X E (.BoolOp .Or (a :: b :: rest) pos) (orT f g) :=
  PW.of (pw_or h hb) fun σ H Q ⟨M, A, I, δ, ok, w⟩ => ⟨M, A, I, δ, ok, w.bind.imp fun (k, δ1) e1 w1 I1 H1 ok1 st1 => by
    cases k with
    | false => exact iteF ⟨M, A, I1, δ1, ok1, Wants.imp w1 fun (k2, δ2) e2 w2 I2 H2 ok2 st2 => w2 I2 H2 ok2 (st1.trans st2)⟩
    | true => exact iteT (w1 I1 H1 ok1 st1)⟩
theorem dw_pt {f : FT} (h : DW T X E e f) : DT T X E e f := h.pt
/-- and, or, not as values: all but the last are True or False -/
def andF (f : FE) (g : FE) : FE := fun δ => do
  let (k, δ1) ← boolF f δ
  if k then g δ1 else pure (.imm (.bl false), δ1)
def orF (f : FE) (g : FE) : FE := fun δ => do
  let (k, δ1) ← boolF f δ
  if k then pure (.imm (.bl true), δ1) else g δ1
def notF (f : FE) : FE := fun δ => do
  let (k, δ1) ← boolF f δ
  pure (.imm (.bl (!k)), δ1)
/-- the reading of a value that is True or False -/
theorem tE_bool {f : FE} {α : Type} {m : Bool × Dl → Out α} {M : Amb} {A : Pl} {I : Hp} {δ : Dl} {σ : L2.St} {H : Hp} {k : α → Prop} {Q : VK} (ok : Ok T M A I σ H δ) (w : Wants T M E (boolF f δ >>= m) k)
    (h : ∀ c δ1 I1 H1, Ok T M A I1 σ H1 δ1 → Stp A δ I H δ1 I1 H1 → Wants T M E (m (c, δ1)) k → Q (.bl c) H1) : tE T E f σ H Q := by
  refine ⟨M, A, I, δ, ok, w.bind.bind.imp fun (r1, δ1) e1 w1 v1 I1 H1 ok1 st1 rr1 => ?_⟩
  cases r1 with
  | slot i => exact w1.elim
  | imm d =>
    cases d with
    | bl c =>
      rw [rr1.get.bl_inv]
      exact h c δ1 I1 H1 ok1 st1 w1
    | _ => exact w1.elim
theorem de_one {op} {f : FE} (h : DE T X E a f) : DE T X E (.BoolOp op [a] pos) f := pe_one h
theorem de_and {f g : FE} {rest : List Expr} (h : DE T X E a f) (hb : DE T X E (.BoolOp .And (b :: rest) pos) g) : DE T X E (.BoolOp .And (a :: b :: rest) pos) (andF f g) :=
  PE.of (pe_and h hb) fun σ H Q ⟨M, A, I, δ, ok, w⟩ => tE_bool ok w fun c δ1 I1 H1 ok1 st1 w1 => ⟨c, rfl, by
    cases c with
    | true => exact iteT ⟨M, A, I1, δ1, ok1, Wants.imp w1 fun (k2, δ2) e2 w2 v2 I2 H2 ok2 st2 r2 => w2 v2 I2 H2 ok2 (st1.trans st2) r2⟩
    | false => exact iteF (w1 _ I1 H1 ok1 st1 (.of .ofbl))⟩
theorem de_or {f g : FE} {rest : List Expr} (h : DE T X E a f) (hb : DE T X E (.BoolOp .Or (b :: rest) pos) g) : DE T X E (.BoolOp .Or (a :: b :: rest) pos) (orF f g) :=
  PE.of (pe_or h hb) fun σ H Q ⟨M, A, I, δ, ok, w⟩ => tE_bool ok w fun c δ1 I1 H1 ok1 st1 w1 => ⟨c, rfl, by
    cases c with
    | false => exact iteF ⟨M, A, I1, δ1, ok1, Wants.imp w1 fun (k2, δ2) e2 w2 v2 I2 H2 ok2 st2 r2 => w2 v2 I2 H2 ok2 (st1.trans st2) r2⟩
    | true => exact iteT (w1 _ I1 H1 ok1 st1 (.of .ofbl))⟩
theorem de_not {f : FE} (h : DE T X E a f) : DE T X E (.UnaryOp .Not a pos) (notF f) :=
  PE.of (pe_not h) fun σ H Q ⟨M, A, I, δ, ok, w⟩ => tE_bool ok w fun c δ1 I1 H1 ok1 st1 w1 => ⟨c, rfl, w1 _ I1 H1 ok1 st1 (.of .ofbl)⟩
/-- a if t else b -/
def ifF (t : FT) (f g : FE) : FE := fun δ => do
  let (k, δ1) ← t δ
  if k then f δ1 else g δ1
theorem de_if {c : Expr} {t : FT} {f g : FE} (hc : DT T X E c t) (ha : DE T X E a f) (hb : DE T X E b g) : DE T X E (.IfExp c a b pos) (ifF t f g) :=
  PE.of (pe_ifExp hc ha hb) fun σ H Q ⟨M, A, I, δ, ok, w⟩ => ⟨M, A, I, δ, ok, w.bind.imp fun (k, δ1) e1 w1 I1 H1 ok1 st1 => by
    cases k with
    | false => exact iteF ⟨M, A, I1, δ1, ok1, Wants.imp w1 fun (k2, δ2) e2 w2 v2 I2 H2 ok2 st2 r2 => w2 v2 I2 H2 ok2 (st1.trans st2) r2⟩
    | true => exact iteT ⟨M, A, I1, δ1, ok1, Wants.imp w1 fun (k2, δ2) e2 w2 v2 I2 H2 ok2 st2 r2 => w2 v2 I2 H2 ok2 (st1.trans st2) r2⟩⟩

/-! ### rows of arguments -/
def nilA : FA := fun δ => .ok ([], δ)
def consA (f : FE) (g : FA) : FA := fun δ => do
  let (r, δ1) ← f δ
  let (rs, δ2) ← g δ1
  pure (r :: rs, δ2)
theorem da_nil : DA T X E [] nilA := PA.of pa_nil fun σ H Q ⟨M, A, I, δ, ok, w⟩ => w [] I H ok .refl rfl
theorem da_cons {f : FE} {g : FA} (h : DE T X E e f) (hr : DA T X E es g) (hs : starEach (e :: es) X.env = (false, eval e X.env) :: starEach es X.env := by rfl) : DA T X E (e :: es) (consA f g) :=
  PA.of (pa_cons h hr hs) fun σ H Q ⟨M, A, I, δ, ok, w⟩ => ⟨M, A, I, δ, ok, w.bind.imp fun (r1, δ1) e1 w1 v1 I1 H1 ok1 st1 rr1 =>
    ⟨M, A, I1, δ1, ok1, w1.bind.imp fun (rs, δ2) e2 w2 vs I2 H2 ok2 st2 rr2 => w2 (v1 :: vs) I2 H2 ok2 (st1.trans st2) ⟨v1, vs, rfl, rr1.mono st2.gro, rr2⟩⟩⟩
end
end DE
set_option Elab.async false
set_option linter.all false
set_option maxRecDepth 100000
set_option maxHeartbeats 2000000
namespace DE
open PySem PySem.Spec PyProof.Rows L2

/-! ### how slots change -/
def freeAt (δ : Dl) (i : Nat) : Bool := match δ[i]? with
  | some (some (.par _)) => false
  | some (some (.lck _)) => false
  | some _ => true
  | none => false
theorem freeAt_lt {δ : Dl} {i : Nat} (h : freeAt δ i = true) : i < δ.length := by
  unfold freeAt at h
  by_cases hi : i < δ.length
  · exact hi
  · rw [List.getElem?_eq_none (by omega)] at h
    cases h
theorem freeAt_par {δ : Dl} {i : Nat} {d : D} (h : freeAt δ i = true) : δ[i]? ≠ some (some (.par d)) := fun e => by
  unfold freeAt at h
  rw [e] at h
  cases h
theorem freeAt_lck {δ : Dl} {i : Nat} {d : D} (h : freeAt δ i = true) : δ[i]? ≠ some (some (.lck d)) := fun e => by
  unfold freeAt at h
  rw [e] at h
  cases h
/-- apart from all that stands in slots, in callers' hands, or for good -/
structure Apart (M : Amb) (A : Pl) (δ : Dl) (I : Hp) (p : Addr × Addr) : Prop where
  i : ∀ b, b = p.1 ∨ b = p.2 → I b = none
  h : ∀ b, b = p.1 ∨ b = p.2 → M.H0 b = none
  s : ∀ b, b = p.1 ∨ b = p.2 → ∀ j, mutAt δ j → ¬ fpt A j b
  x : ∀ b, b = p.1 ∨ b = p.2 → ∀ q ∈ M.ex, b ≠ q.2.1 ∧ b ≠ q.2.2

section
variable {T : Ctx} {M : Amb} {A : Pl} {I H I' H' : Hp} {σ : L2.St} {δ δ' : Dl} {E : XK} {i : Nat} {d : D} {v : V} {p : Addr × Addr}
theorem mutAt_set {s : Option S} {j : Nat} (h : mutAt (δ.set i s) j) : j ≠ i ∧ mutAt δ j ∨ j = i ∧ ∃ z, s = some z ∧ z.mut = true := by
  obtain ⟨z, e, m⟩ := h
  by_cases hj : j = i
  · subst hj
    by_cases hl : j < δ.length
    · rw [List.getElem?_set_self hl] at e
      exact .inr ⟨rfl, z, Option.some.inj e, m⟩
    · rw [List.getElem?_eq_none (by simpa using hl)] at e
      cases e
  · rw [List.getElem?_set_ne (Ne.symm hj)] at e
    exact .inl ⟨hj, z, e, m⟩
theorem Ok.fresh (x : Ok T M A I σ H δ) (h1 : H p.1 = none) (h2 : H p.2 = none) : Apart M A δ I p := by
  have hb : ∀ b, b = p.1 ∨ b = p.2 → H b = none := fun b z => by
    rcases z with rfl | rfl
    · exact h1
    · exact h2
  have hs : ∀ b, b = p.1 ∨ b = p.2 → ∀ j, mutAt δ j → ¬ fpt A j b := fun b z j hj f => by
    obtain ⟨s, e, m⟩ := hj
    have q := x.sl j s e
    have ow : ∃ d, OwnRep T I H d (A j) := by
      cases s with
      | imm d => cases m
      | own d => exact ⟨d, q.2.1⟩
      | par d => exact ⟨d, q.2.1⟩
      | lck d => exact ⟨d, q.2.1⟩
    obtain ⟨d, ow⟩ := ow
    obtain ⟨u, hu⟩ := ow.fp f
    rw [hb b z] at hu
    cases hu
  have hx : ∀ b, b = p.1 ∨ b = p.2 → ∀ q ∈ M.ex, b ≠ q.2.1 ∧ b ≠ q.2.2 := fun b z q hq => by
    obtain ⟨⟨d, e⟩, ea⟩ := x.prs q hq
    have n := hs b z q.1 ⟨_, e, rfl⟩
    rw [fpt, ea] at n
    exact ⟨fun w => n (.inl w), fun w => n (.inr w)⟩
  refine ⟨fun b z => x.sub.free (hb b z), fun b z => ?_, hs, hx⟩
  cases q : M.H0 b with
  | none => rfl
  | some o =>
    have w := x.kee b o q (hx b z)
    rw [hb b z] at w
    cases w
theorem Ok.set (x : Ok T M A I σ H δ) (hf : freeAt δ i = true) (r : Rep T I d v) : Ok T M A I (σ.set i (some v)) H (δ.set i (some (.imm d))) where
  sub := x.sub
  gro := x.gro
  fre := x.fre
  kee := x.kee
  len := by simp [x.len]
  sl := fun j s e => by
    by_cases hj : j = i
    · subst hj
      have hl := freeAt_lt hf
      rw [List.getElem?_set_self hl] at e
      cases e
      exact ⟨v, by rw [List.getElem?_set_self (by rw [x.len]; exact hl)], r⟩
    · rw [List.getElem?_set_ne (Ne.symm hj)] at e ⊢
      exact x.sl j s e
  inj := fun j k b h1 h2 => by
    rcases mutAt_set h1 with ⟨_, h1⟩ | ⟨_, z, e, m⟩
    · rcases mutAt_set h2 with ⟨_, h2⟩ | ⟨_, z, e, m⟩
      · exact x.inj j k b h1 h2
      · cases e; cases m
    · cases e; cases m
  prs := fun q hq => by
    obtain ⟨⟨d', e⟩, ea⟩ := x.prs q hq
    refine ⟨⟨d', ?_⟩, ea⟩
    rw [List.getElem?_set_ne fun z => freeAt_par hf (by rw [z]; exact e)]
    exact e
  lks := fun q hq => by
    obtain ⟨e, ea⟩ := x.lks q hq
    refine ⟨?_, ea⟩
    rw [List.getElem?_set_ne fun z => freeAt_lck hf (by rw [z]; exact e)]
    exact e
/-- a slot is forgotten -/
theorem Ok.drop (x : Ok T M A I σ H δ) (hf : freeAt δ i = true) (w : Option V) : Ok T M A I (σ.set i w) H (δ.set i none) where
  sub := x.sub
  gro := x.gro
  fre := x.fre
  kee := x.kee
  len := by simp [x.len]
  sl := fun j s e => by
    by_cases hj : j = i
    · subst hj
      rw [List.getElem?_set_self (freeAt_lt hf)] at e
      cases e
    · rw [List.getElem?_set_ne (Ne.symm hj)] at e ⊢
      exact x.sl j s e
  inj := fun j k b h1 h2 => by
    rcases mutAt_set h1 with ⟨_, h1⟩ | ⟨_, z, e, m⟩
    · rcases mutAt_set h2 with ⟨_, h2⟩ | ⟨_, z, e, m⟩
      · exact x.inj j k b h1 h2
      · cases e
    · cases e
  prs := fun q hq => by
    obtain ⟨⟨d', e⟩, ea⟩ := x.prs q hq
    refine ⟨⟨d', ?_⟩, ea⟩
    rw [List.getElem?_set_ne fun z => freeAt_par hf (by rw [z]; exact e)]
    exact e
  lks := fun q hq => by
    obtain ⟨e, ea⟩ := x.lks q hq
    refine ⟨?_, ea⟩
    rw [List.getElem?_set_ne fun z => freeAt_lck hf (by rw [z]; exact e)]
    exact e
def plSet (A : Pl) (i : Nat) (p : Addr × Addr) : Pl := fun j => if j = i then p else A j
theorem plSet_same : plSet A i p i = p := by unfold plSet; rw [if_pos rfl]
theorem plSet_ne {j : Nat} (h : j ≠ i) : plSet A i p j = A j := by unfold plSet; rw [if_neg h]
theorem fpt_same {b : Addr} : fpt (plSet A i p) i b ↔ b = p.1 ∨ b = p.2 := by rw [fpt, plSet_same]
theorem fpt_ne {j : Nat} {b : Addr} (h : j ≠ i) : fpt (plSet A i p) j b ↔ fpt A j b := by rw [fpt, plSet_ne h, fpt]
def frz (I H : Hp) (p : Addr × Addr) : Hp := fun b => if b = p.1 ∨ b = p.2 then H b else I b
theorem frz_in {b : Addr} (h : b = p.1 ∨ b = p.2) : frz I H p b = H b := by unfold frz; rw [if_pos h]
theorem frz_out {b : Addr} (h : ¬ (b = p.1 ∨ b = p.2)) : frz I H p b = I b := by unfold frz; rw [if_neg h]
theorem Ok.setOwn (x : Ok T M A I σ H δ) (hf : freeAt δ i = true) (o : OwnRep T I H d p) (ap : Apart M A δ I p) :
    Ok T M (plSet A i p) I (σ.set i (some (.ref p.1))) H (δ.set i (some (.own d))) where
  sub := x.sub
  gro := x.gro
  fre := x.fre
  kee := x.kee
  len := by simp [x.len]
  sl := fun j s e => by
    by_cases hj : j = i
    · subst hj
      have hl := freeAt_lt hf
      rw [List.getElem?_set_self hl] at e
      cases e
      refine ⟨?_, ?_, ?_⟩
      · rw [List.getElem?_set_self (by rw [x.len]; exact hl), plSet_same]
      · rw [plSet_same]; exact o
      · intro b hb
        rw [fpt_same] at hb
        exact ⟨ap.i b hb, ap.h b hb⟩
    · rw [List.getElem?_set_ne (Ne.symm hj)] at e ⊢
      have z := x.sl j s e
      have e1 : ∀ b, fpt (plSet A i p) j b ↔ fpt A j b := fun b => fpt_ne hj
      cases s with
      | imm d => exact z
      | own d => simpa only [SlotOk, plSet_ne hj, e1] using z
      | par d => simpa only [SlotOk, plSet_ne hj, e1] using z
      | lck d => simpa only [SlotOk, plSet_ne hj, e1] using z
  inj := fun j k b h1 h2 f1 f2 => by
    rcases mutAt_set h1 with ⟨n1, h1⟩ | ⟨rfl, _⟩
    · rw [fpt_ne n1] at f1
      rcases mutAt_set h2 with ⟨n2, h2⟩ | ⟨e2, _⟩
      · rw [fpt_ne n2] at f2
        exact x.inj j k b h1 h2 f1 f2
      · rw [e2, fpt_same] at f2
        exact (ap.s b f2 j h1 f1).elim
    · rw [fpt_same] at f1
      rcases mutAt_set h2 with ⟨n2, h2⟩ | ⟨rfl, _⟩
      · rw [fpt_ne n2] at f2
        exact (ap.s b f1 k h2 f2).elim
      · rfl
  prs := fun q hq => by
    obtain ⟨⟨d', e⟩, ea⟩ := x.prs q hq
    have n : q.1 ≠ i := fun z => freeAt_par hf (by rw [← z]; exact e)
    refine ⟨⟨d', ?_⟩, by rw [plSet_ne n]; exact ea⟩
    rw [List.getElem?_set_ne (Ne.symm n)]
    exact e
  lks := fun q hq => by
    obtain ⟨e, ea⟩ := x.lks q hq
    have n : q.1 ≠ i := fun z => freeAt_lck hf (by rw [← z]; exact e)
    refine ⟨?_, by rw [plSet_ne n]; exact ea⟩
    rw [List.getElem?_set_ne (Ne.symm n)]
    exact e
def isDk : D → Bool
  | .dk _ _ => true
  | _ => false
/-- an object becomes one for good -/
theorem Ok.freezeAt (x : Ok T M A I σ H δ) (o : OwnRep T I H d p) (ap : Apart M A δ I p) (nd : isDk d = false) :
    ∃ I', Ok T M A I' σ H δ ∧ Same I I' ∧ (∀ b u, I' b = some u → I b = some u ∨ b = p.1 ∨ b = p.2) ∧ Rep T I' d (.ref p.1) := by
  have hI : ∀ b u, I b = some u → ¬ (b = p.1 ∨ b = p.2) := fun b u e z => by
    rw [ap.i b z] at e
    cases e
  refine ⟨frz I H p, ?_, ?_, ?_, ?_⟩
  · have sm : Same I (frz I H p) := fun b u e => by rw [frz_out (hI b u e)]; exact e
    have nf : ∀ j b, mutAt δ j → fpt A j b → ¬ (b = p.1 ∨ b = p.2) := fun j b hj f z => ap.s b z j hj f
    refine ⟨fun b u e => ?_, x.gro.trans sm, fun b u e => ?_, x.kee, x.len, fun j s e => ?_, x.inj, x.prs, x.lks⟩
    · by_cases z : b = p.1 ∨ b = p.2
      · rw [frz_in z] at e; exact e
      · rw [frz_out z] at e; exact x.sub _ _ e
    · by_cases z : b = p.1 ∨ b = p.2
      · exact .inr (ap.h b z)
      · rw [frz_out z] at e; exact x.fre b u e
    · have z := x.sl j s e
      cases s with
      | imm d =>
        obtain ⟨v, h1, h2⟩ := z
        exact ⟨v, h1, h2.mono sm⟩
      | own d =>
        obtain ⟨h1, h2, h3⟩ := z
        refine ⟨h1, h2.new sm fun b u _ q => q, fun b hb => ⟨?_, (h3 b hb).2⟩⟩
        rw [frz_out (nf j b ⟨_, e, rfl⟩ hb)]
        exact (h3 b hb).1
      | par d =>
        obtain ⟨h1, h2, h3, h4⟩ := z
        refine ⟨h1, h2.new sm fun b u _ q => q, fun b hb => ?_, h4⟩
        rw [frz_out (nf j b ⟨_, e, rfl⟩ hb)]
        exact h3 b hb
      | lck d =>
        obtain ⟨h1, h2, h3, h4⟩ := z
        refine ⟨h1, h2.new sm fun b u _ q => q, fun b hb => ⟨?_, (h3 b hb).2⟩, h4⟩
        rw [frz_out (nf j b ⟨_, e, rfl⟩ hb)]
        exact (h3 b hb).1
  · exact fun b u e => by rw [frz_out (hI b u e)]; exact e
  · intro b u e
    by_cases z : b = p.1 ∨ b = p.2
    · exact .inr z
    · rw [frz_out z] at e; exact .inl e
  · have sm : Same I (frz I H p) := fun b u e => by rw [frz_out (hI b u e)]; exact e
    cases d with
    | lst ds =>
      obtain ⟨e, xs, h, r⟩ := o
      exact .oflst (by rw [frz_in (.inl rfl)]; exact h) (r.mono sm)
    | dk ks ds => cases nd
    | obj c fs =>
      obtain ⟨e, ⟨u, hu⟩, vs, h, r⟩ := o
      simp only [Rep]
      refine ⟨p.1, p.2, vs, rfl, ?_, r.mono sm⟩
      rcases h with ⟨h1, h2⟩ | ⟨h1, h2⟩
      · exact .inl ⟨by rw [frz_in (.inl rfl)]; exact h1, h2⟩
      · exact .inr ⟨by rw [frz_in (.inl rfl)]; exact h1, by rw [frz_in (.inr rfl)]; exact h2⟩
    | undef => exact o.elim
    | non => exact o.elim
    | bl b => exact o.elim
    | int b => exact o.elim
    | str b => exact o.elim
    | tup b => exact o.elim
    | frl b => exact o.elim
    | kls b => exact o.elim
/-- what a slot holds becomes data for good -/
theorem Ok.freeze (x : Ok T M A I σ H δ) (h : δ[i]? = some (some (.own d))) (nd : isDk d = false) :
    ∃ I', Ok T M A I' σ H (δ.set i (some (.imm d))) ∧ Stp A δ I H (δ.set i (some (.imm d))) I' H ∧ Rep T I' d (.ref (A i).1) ∧ σ[i]? = some (some (.ref (A i).1)) := by
  obtain ⟨h1, h2, h3⟩ := x.sl i _ h
  have hf : freeAt δ i = true := by simp only [freeAt, h]
  have x0 := x.drop hf (some (.ref (A i).1))
  have hl := freeAt_lt hf
  have hσ : σ.set i (some (.ref (A i).1)) = σ := by
    apply List.ext_getElem?
    intro j
    by_cases hj : j = i
    · subst hj
      rw [List.getElem?_set_self (by rw [x.len]; exact hl), h1]
    · rw [List.getElem?_set_ne (Ne.symm hj)]
  rw [hσ] at x0
  have ap : Apart M A (δ.set i none) I (A i) := by
    refine ⟨fun b z => (h3 b z).1, fun b z => (h3 b z).2, fun b z j hj f => ?_, fun b z q hq => ?_⟩
    · rcases mutAt_set hj with ⟨n, hj⟩ | ⟨_, _, e, _⟩
      · exact n (x.inj j i b hj ⟨_, h, rfl⟩ f z)
      · cases e
    · obtain ⟨⟨d', e⟩, ea⟩ := x.prs q hq
      have : ∀ b, fpt A q.1 b → ¬ fpt A i b := fun b f g => by
        have := x.inj q.1 i b ⟨_, e, rfl⟩ ⟨_, h, rfl⟩ f g
        rw [this, h] at e
        cases e
      refine ⟨fun w => this b (by rw [fpt, ea]; exact .inl w) z, fun w => this b (by rw [fpt, ea]; exact .inr w) z⟩
  obtain ⟨I', x1, sm, fr, r⟩ := x0.freezeAt h2 ap nd
  have x2 := x1.set (i := i) (d := d) (v := .ref (A i).1) (by simp only [freeAt, List.getElem?_set_self hl]) r
  rw [hσ, List.set_set] at x2
  refine ⟨I', x2, ⟨sm, fun b o e => ?_, fun b o e _ => e, fun j hj => ?_, fun b o e => ⟨o, e⟩⟩, r, h1⟩
  · rcases fr b o e with z | z
    · exact .inl z
    · exact .inr (.inr ⟨i, ⟨_, h, rfl⟩, z⟩)
  · rcases mutAt_set hj with ⟨_, hj⟩ | ⟨_, z, e, m⟩
    · exact hj
    · cases e; cases m
end

/-! ### handing a value on: what a slot holds is for good from then on -/
def takeR (r : R) (δ : Dl) : Out (D × Dl) := match r with
  | .imm d => .ok (d, δ)
  | .slot i => match δ[i]? with
    | some (some (.imm d)) => .ok (d, δ)
    | some (some (.own d)) => if isDk d then .stuck else .ok (d, δ.set i (some (.imm d)))
    | _ => .stuck
theorem takeR_exc {r : R} {δ : Dl} {x : XD} (h : takeR r δ = .exc x) : False := by
  cases r with
  | imm d => cases h
  | slot i =>
    simp only [takeR] at h
    split at h
    · cases h
    · split at h <;> cases h
    · cases h
theorem Ok.hand {T : Ctx} {M : Amb} {A : Pl} {I H : Hp} {σ : L2.St} {δ δ' : Dl} {r : R} {v : V} {d : D} (x : Ok T M A I σ H δ) (h : RepR T I σ r v) (e : takeR r δ = .ok (d, δ')) :
    ∃ I', Ok T M A I' σ H δ' ∧ Stp A δ I H δ' I' H ∧ Rep T I' d v := by
  cases r with
  | imm d' =>
    cases e
    exact ⟨I, x, .refl, h⟩
  | slot i =>
    have h : σ[i]? = some (some v) := h
    simp only [takeR] at e
    split at e
    · rename_i d' hd
      cases e
      obtain ⟨w, h1, h2⟩ := x.sl i _ hd
      rw [h] at h1
      cases h1
      exact ⟨I, x, .refl, h2⟩
    · rename_i d' hd
      split at e
      · cases e
      rename_i nd
      cases e
      obtain ⟨I', x1, st, r, h1⟩ := x.freeze hd (by simpa using nd)
      rw [h] at h1
      cases h1
      exact ⟨I', x1, st, r⟩
    · cases e
def putS (i : Nat) (s : S) (δ : Dl) : Out Dl := if freeAt δ i then .ok (δ.set i (some s)) else .stuck

/-! ### statements -/
def nextS : FS := fun δ => .ok (.nx, δ)
def seqS (f g : FS) : FS := fun δ => do
  let (l, δ1) ← f δ
  match l with
  | .nx => g δ1
  | l => pure (l, δ1)
def breakS : FS := fun δ => .ok (.bk, δ)
def contS : FS := fun δ => .ok (.ct, δ)
def exprS (f : FE) : FS := fun δ => do
  let (_, δ1) ← f δ
  pure (.nx, δ1)
def retS (f : FE) : FS := fun δ => do
  let (r, δ1) ← f δ
  let (d, δ2) ← takeR r δ1
  pure (.rt (.imm d), δ2)
def retNS : FS := fun δ => .ok (.rt (.imm .non), δ)
def ifS (t : FT) (f g : FS) : FS := fun δ => do
  let (k, δ1) ← t δ
  if k then f δ1 else g δ1
def setS (i : Nat) (f : FE) : FS := fun δ => do
  let (r, δ1) ← f δ
  let (d, δ2) ← takeR r δ1
  let δ3 ← putS i (.imm d) δ2
  pure (.nx, δ3)
/-- a reading that hands out a fresh object -/
abbrev FN := Dl → Out (D × Dl)
def tN (T : Ctx) (E : XK) (f : FN) : TE := fun σ H Q => ∃ M A I δ, Ok T M A I σ H δ ∧
  Wants T M E (f δ) fun (d, δ') => ∀ p I' H', Ok T M A I' σ H' δ' → Stp A δ I H δ' I' H' → OwnRep T I' H' d p → Apart M A δ' I' p → H p.1 = none → H p.2 = none → Q (.ref p.1) H'
abbrev DN (T : Ctx) (X : Cx) (E : XK) (e : Expr) (f : FN) : Prop := PE X e (tN T E f)
def freshF (f : FN) : FE := fun δ => do
  let (d, δ1) ← f δ
  if isDk d then .stuck else pure (.imm d, δ1)
def setNS (i : Nat) (f : FN) : FS := fun δ => do
  let (d, δ1) ← f δ
  let δ2 ← putS i (.own d) δ1
  pure (.nx, δ2)
def retNewS (f : FN) : FS := fun δ => do
  let (d, δ1) ← f δ
  pure (.rt (.own d), δ1)
section
variable {T : Ctx} {X : Cx} {E : XK} {e a b : Expr} {es : List Expr} {pos : Pos}
theorem tN_tE {f : FN} {t : TE} (ht : ∀ σ H Q, tN T E f σ H Q → t σ H Q) : ∀ σ H Q, tE T E (freshF f) σ H Q → t σ H Q := fun σ H Q ⟨M, A, I, δ, ok, w⟩ =>
  ht σ H Q ⟨M, A, I, δ, ok, w.bind.imp fun (d, δ1) e1 w1 p I1 H1 ok1 st1 o ap n1 n2 => by
    replace w1 : Wants T M E (if isDk d then .stuck else pure (R.imm d, δ1)) _ := w1
    split at w1
    · exact w1.elim
    rename_i nd
    obtain ⟨I2, ok2, sm, fr, r⟩ := ok1.freezeAt o ap (by simpa using nd)
    refine w1 _ I2 H1 ok2 ⟨st1.gro.trans sm, fun b u h => ?_, st1.kee, st1.mon, st1.dom⟩ r
    rcases fr b u h with h | h | h
    · exact st1.fre b u h
    · exact .inr (.inl (by rw [h]; exact n1))
    · exact .inr (.inl (by rw [h]; exact n2))⟩
theorem de_fresh {f : FN} (h : DN T X E e f) : DE T X E e (freshF f) := PE.of h (tN_tE fun _ _ _ z => z)
theorem dss_nil : DSs T X E [] nextS := PSs.of pss_nil fun D σ H ⟨M, A, I, δ, ok, w⟩ => w A I σ H ok
theorem ds_pass : DS T X E (.Pass pos) nextS := PS.of ps_pass fun D σ H ⟨M, A, I, δ, ok, w⟩ => w A I σ H ok
theorem ds_doc {x j pos'} : DS T X E (.Expr (.Constant (.str x) j pos) pos') nextS := PS.of ps_doc fun D σ H ⟨M, A, I, δ, ok, w⟩ => w A I σ H ok
theorem ds_break : DS T X E (.Break pos) breakS := PS.of ps_break fun D σ H ⟨M, A, I, δ, ok, w⟩ => w A I σ H ok
theorem ds_cont : DS T X E (.Continue pos) contS := PS.of ps_continue fun D σ H ⟨M, A, I, δ, ok, w⟩ => w A I σ H ok
/-- a reading of a statement from that of what it goes on with -/
theorem tS_nx {f g : FS} {D : Ends} {σ : L2.St} {H : Hp} {M : Amb} {A : Pl} {I : Hp} {δ : Dl} (ok : Ok T M A I σ H δ)
    (w : Wants T M E (seqS f g δ) fun (l, δ') => match l with
      | .nx => ∀ A' I' σ' H', Ok T M A' I' σ' H' δ' → D.nx σ' H'
      | .bk => ∀ A' I' σ' H', Ok T M A' I' σ' H' δ' → D.bk σ' H'
      | .ct => ∀ A' I' σ' H', Ok T M A' I' σ' H' δ' → D.ct σ' H'
      | .rt s => ∀ A' I' σ' H' v, Ok T M A' I' σ' H' δ' → RetOk T M A' I' H' δ' v s → D.rt v H') : tS T E f { D with nx := tS T E g D } σ H := by
  refine ⟨M, A, I, δ, ok, w.bind.imp fun (l, δ1) e1 w1 => ?_⟩
  cases l with
  | nx => exact fun A' I' σ' H' ok' => ⟨M, A', I', δ1, ok', w1⟩
  | bk => exact w1
  | ct => exact w1
  | rt s => exact w1
theorem dss_cons {st : Stmt} {rest : List Stmt} {f g : FS} (h : DS T X E st f) (hr : DSs T X E rest g) : DSs T X E (st :: rest) (seqS f g) :=
  PSs.of (pss_cons h hr) fun D σ H ⟨M, A, I, δ, ok, w⟩ => tS_nx ok w
theorem dss_one {st : Stmt} {f : FS} (h : DS T X E st f) : DSs T X E [st] f := pss_one h
theorem ds_expr {f : FE} (h : DE T X E e f) (hs : swapsWith e none pos.line X.env = pure false := by rfl) : DS T X E (.Expr e pos) (exprS f) :=
  PS.of (ps_expr h hs) fun D σ H ⟨M, A, I, δ, ok, w⟩ => ⟨M, A, I, δ, ok, w.bind.imp fun (r, δ1) e1 w1 v I1 H1 ok1 st1 r1 => w1 A I1 σ H1 ok1⟩
theorem ds_ret {f : FE} (h : DE T X E e f) : DS T X E (.Return (some e) pos) (retS f) :=
  PS.of (ps_ret h) fun D σ H ⟨M, A, I, δ, ok, w⟩ => ⟨M, A, I, δ, ok, w.bind.imp fun (r, δ1) e1 w1 v I1 H1 ok1 st1 r1 => by
    replace w1 : Wants T M E (takeR r δ1 >>= fun z => pure (Fl.rt (.imm z.1), z.2)) _ := w1
    cases q : takeR r δ1 with
    | stuck => rw [q] at w1; exact w1.elim
    | exc x => exact (takeR_exc q).elim
    | ok z =>
      rw [q] at w1
      obtain ⟨I2, ok2, st2, rr⟩ := ok1.hand r1 q
      exact w1 A I2 σ H1 v ok2 rr⟩
theorem ds_retNew {f : FN} (h : DN T X E e f) : DS T X E (.Return (some e) pos) (retNewS f) :=
  PS.of (ps_ret h) fun D σ H ⟨M, A, I, δ, ok, w⟩ => ⟨M, A, I, δ, ok, w.bind.imp fun (d, δ1) e1 w1 p I1 H1 ok1 st1 o ap n1 n2 =>
    w1 A I1 σ H1 _ ok1 ⟨p, rfl, o, fun b hb => ⟨ap.i b hb, ap.h b hb, ap.x b hb⟩⟩⟩
theorem ds_retN : DS T X E (.Return none pos) retNS := PS.of ps_retN fun D σ H ⟨M, A, I, δ, ok, w⟩ => w A I σ H .non ok (show Rep T I .non .non from .ofnon)
theorem ds_if {c : Expr} {p q : List Stmt} {t : FT} {f g : FS} (hc : DT T X E c t) (ha : DSs T X E p f) (hb : DSs T X E q g) : DS T X E (.If c p q pos) (ifS t f g) :=
  PS.of (ps_if hc ha hb) fun D σ H ⟨M, A, I, δ, ok, w⟩ => ⟨M, A, I, δ, ok, w.bind.imp fun (k, δ1) e1 w1 I1 H1 ok1 st1 => by
    cases k with
    | true => exact iteT ⟨M, A, I1, δ1, ok1, w1⟩
    | false => exact iteF ⟨M, A, I1, δ1, ok1, w1⟩⟩
theorem tAsg_of {i : Nat} {f : FE} {D : Ends} {σ : L2.St} {H : Hp} {t : TE} (ht : ∀ σ H Q, tE T E f σ H Q → t σ H Q) (h : tS T E (setS i f) D σ H) : tAsg t (gName i) D σ H := by
  obtain ⟨M, A, I, δ, ok, w⟩ := h
  refine ht _ _ _ ⟨M, A, I, δ, ok, w.bind.imp fun (r, δ1) e1 w1 v I1 H1 ok1 st1 r1 => ?_⟩
  replace w1 : Wants T M E (takeR r δ1 >>= fun z => putS i (.imm z.1) z.2 >>= fun δ3 => pure (Fl.nx, δ3)) _ := w1
  cases q : takeR r δ1 with
  | stuck => rw [q] at w1; exact w1.elim
  | exc x => exact (takeR_exc q).elim
  | ok z =>
    rw [q] at w1
    obtain ⟨I2, ok2, st2, rr⟩ := ok1.hand r1 q
    simp only [ok_bind, putS] at w1
    split at w1
    · rename_i hf
      exact w1 A I2 _ H1 (ok2.set hf rr)
    · exact w1.elim
theorem tAsgN_of {i : Nat} {f : FN} {D : Ends} {σ : L2.St} {H : Hp} {t : TE} (ht : ∀ σ H Q, tN T E f σ H Q → t σ H Q) (h : tS T E (setNS i f) D σ H) : tAsg t (gName i) D σ H := by
  obtain ⟨M, A, I, δ, ok, w⟩ := h
  refine ht _ _ _ ⟨M, A, I, δ, ok, w.bind.imp fun (d, δ1) e1 w1 p I1 H1 ok1 st1 o ap n1 n2 => ?_⟩
  replace w1 : Wants T M E (putS i (.own d) δ1 >>= fun δ3 => pure (Fl.nx, δ3)) _ := w1
  simp only [putS] at w1
  split at w1
  · rename_i hf
    exact w1 _ I1 _ H1 (ok1.setOwn hf o ap)
  · exact w1.elim
theorem ds_set {i : Nat} {x : Str} {f : FE} {pos' : Pos} (hN : X.N.Nodup) (he : DE T X E e f) (hi : X.N[i]? = some x := by rfl) (hx : Loc X.env.scope x := by first | exact Or.inl rfl | exact Or.inr rfl)
    (hs : swapsWith e (some (.Name x pos')) pos.line X.env = pure false := by rfl) (hf : X.fn x = true ∨ X.env.scope.names.lookup x = some .local := by first | exact .inl rfl | exact .inr rfl) :
    DS T X E (.Assign [.Name x pos'] e pos) (setS i f) := PS.of (ps_set hN hi hx he hs hf) fun D σ H h => tAsg_of (fun _ _ _ z => z) h
theorem ds_setN {i : Nat} {x : Str} {f : FN} {pos' : Pos} (hN : X.N.Nodup) (he : DN T X E e f) (hi : X.N[i]? = some x := by rfl) (hx : Loc X.env.scope x := by first | exact Or.inl rfl | exact Or.inr rfl)
    (hs : swapsWith e (some (.Name x pos')) pos.line X.env = pure false := by rfl) (hf : X.fn x = true ∨ X.env.scope.names.lookup x = some .local := by first | exact .inl rfl | exact .inr rfl) :
    DS T X E (.Assign [.Name x pos'] e pos) (setNS i f) := PS.of (ps_set hN hi hx he hs hf) fun D σ H h => tAsgN_of (fun _ _ _ z => z) h
end
end DE
set_option Elab.async false
set_option linter.all false
set_option maxRecDepth 100000
set_option maxHeartbeats 2000000
namespace DE
open PySem PySem.Spec PyProof.Rows L2

/-! ### the thing in a slot is changed -/
def S.put : S → D → S
  | .own _, d => .own d
  | .par _, d => .par d
  | s, _ => s
/-- own or par -/
def S.live : S → Bool
  | .own _ => true
  | .par _ => true
  | _ => false
section
variable {T : Ctx} {M : Amb} {A : Pl} {I H I' H' : Hp} {σ : L2.St} {δ δ' : Dl} {E : XK} {i j : Nat} {d : D} {v : V} {p : Addr × Addr} {s : S}
theorem S.live_mut (h : s.live = true) : s.mut = true := by cases s <;> first | rfl | cases h
theorem Ok.chg (x : Ok T M A I σ H δ) (hs : δ[j]? = some (some s)) (hl : s.live = true) (gro : Same I I') (sub : Same I' H') (fre : ∀ b o, I' b = some o → I b = some o ∨ H b = none)
    (kee : ∀ b o, H b = some o → ¬ fpt A j b → H' b = some o) (o : OwnRep T I' H' d (A j)) (n : ∀ b, fpt A j b → I' b = none) :
    Ok T M A I' σ H' (δ.set j (some (s.put d))) ∧ Stp A δ I H (δ.set j (some (s.put d))) I' H' := by
  have hj : j < δ.length := by
    by_cases h : j < δ.length
    · exact h
    · rw [List.getElem?_eq_none (by omega)] at hs
      cases hs
  have hm : mutAt δ j := ⟨s, hs, s.live_mut hl⟩
  have mon : ∀ k, mutAt (δ.set j (some (s.put d))) k → mutAt δ k := fun k h => by
    rcases mutAt_set h with ⟨_, h⟩ | ⟨rfl, _⟩
    · exact h
    · exact hm
  have none_of : ∀ k b u, k ≠ j → mutAt δ k → fpt A k b → H b = some u → I b = none → I' b = none := fun k b u nk hk f hu hi => by
    cases q : I' b with
    | none => rfl
    | some o =>
      rcases fre b o q with z | z
      · rw [hi] at z; cases z
      · rw [hu] at z; cases z
  have kept : ∀ k, k ≠ j → mutAt δ k → ∀ b u, (b = (A k).1 ∨ b = (A k).2) → H b = some u → H' b = some u := fun k nk hk b u f hu => kee b u hu fun g => nk (x.inj k j b hk hm f g)
  refine ⟨⟨sub, x.gro.trans gro, fun b u e => ?_, fun b u e hn => ?_, by simp [x.len], fun k z e => ?_, fun a b c h1 h2 => x.inj a b c (mon _ h1) (mon _ h2), fun q hq => ?_, fun q hq => ?_⟩,
    ⟨gro, fun b u e => (fre b u e).elim .inl fun z => .inr (.inl z), fun b u e hn => kee b u e (hn j hm), mon, fun b u e => ?_⟩⟩
  · rcases fre b u e with z | z
    · exact x.fre b u z
    · exact .inr ((x.fresh (p := (b, b)) z z).h b (.inl rfl))
  · refine kee b u (x.kee b u e hn) fun f => ?_
    have z := x.sl j s hs
    cases s with
    | own d =>
      rw [(z.2.2 b f).2] at e
      cases e
    | par d =>
      have := hn _ z.2.2.2
      rcases f with f | f
      · exact this.1 f
      · exact this.2 f
    | _ => cases hl
  · by_cases hk : k = j
    · subst hk
      rw [List.getElem?_set_self hj] at e
      cases e
      have z := x.sl k s hs
      cases s with
      | own d' => exact ⟨z.1, o, fun b f => ⟨n b f, (z.2.2 b f).2⟩⟩
      | par d' => exact ⟨z.1, o, n, z.2.2.2⟩
      | _ => cases hl
    · rw [List.getElem?_set_ne (Ne.symm hk)] at e
      have y := x.sl k z e
      cases z with
      | imm d' =>
        obtain ⟨v, h1, h2⟩ := y
        exact ⟨v, h1, h2.mono gro⟩
      | own d' =>
        have hm' : mutAt δ k := ⟨_, e, rfl⟩
        obtain ⟨h1, h2, h3⟩ := y
        refine ⟨h1, h2.new gro (kept k hk hm'), fun b f => ⟨?_, (h3 b f).2⟩⟩
        obtain ⟨u, hu⟩ := h2.fp f
        exact none_of k b u hk hm' f hu (h3 b f).1
      | par d' =>
        have hm' : mutAt δ k := ⟨_, e, rfl⟩
        obtain ⟨h1, h2, h3, h4⟩ := y
        refine ⟨h1, h2.new gro (kept k hk hm'), fun b f => ?_, h4⟩
        obtain ⟨u, hu⟩ := h2.fp f
        exact none_of k b u hk hm' f hu (h3 b f)
      | lck d' =>
        have hm' : mutAt δ k := ⟨_, e, rfl⟩
        obtain ⟨h1, h2, h3, h4⟩ := y
        refine ⟨h1, h2.new gro (kept k hk hm'), fun b f => ⟨?_, (h3 b f).2⟩, by rw [h2.root fun u q => kept k hk hm' _ u (.inl rfl) q]; exact h4⟩
        obtain ⟨u, hu⟩ := h2.fp f
        exact none_of k b u hk hm' f hu (h3 b f).1
  · obtain ⟨⟨d', e⟩, ea⟩ := x.prs q hq
    refine ⟨?_, ea⟩
    by_cases hk : q.1 = j
    · rw [hk] at e ⊢
      rw [hs] at e
      cases e
      exact ⟨d, by rw [List.getElem?_set_self hj]; rfl⟩
    · exact ⟨d', by rw [List.getElem?_set_ne (Ne.symm hk)]; exact e⟩
  · obtain ⟨e, ea⟩ := x.lks q hq
    refine ⟨?_, ea⟩
    rw [List.getElem?_set_ne fun z => by
      rw [← z, hs] at e
      cases e
      cases hl]
    exact e
  · by_cases f : fpt A j b
    · exact o.fp f
    · exact ⟨u, kee b u e f⟩
end

/-! ### defs -/
/-- what a def does: its arguments (the first one may be shared), what it hands back, what is in the shared one then -/
abbrev FnSem := List S → Out (S × Option D)
def S.isImm : S → Bool
  | .imm _ => true
  | _ => false
def goodArgs : List S → Bool
  | .par _ :: r => r.all S.isImm
  | r => r.all S.isImm
def exOf (ss : List S) (A : Pl) : List (Nat × Addr × Addr) := match ss with
  | .par _ :: _ => [(0, A 0)]
  | _ => []
/-- what the shared argument holds -/
def parD (ss : List S) (δ : Dl) : Out (Option D) := match ss with
  | .par _ :: _ => match δ with
    | some (.par d) :: _ => .ok (some d)
    | _ => .stuck
  | _ => .ok none
def fnF (n : Nat) (body : FS) : FnSem := fun ss => do
  let (l, δ) ← body (ss.map some ++ List.replicate (n - ss.length) none)
  let p ← parD ss δ
  match l with
  | .rt s => pure (s, p)
  | .nx => pure (.imm .non, p)
  | _ => .stuck
abbrev ambOf (H I : Hp) (ss : List S) (A : Pl) : Amb := ⟨H, I, exOf ss A, []⟩
def spF (T : Ctx) (n : Nat) (F : FnSem) : Sp := fun vs H Q E => ∃ I ss A, vs.length = n ∧ goodArgs ss = true ∧ Ok T (ambOf H I ss A) A I (vs.map some) H (ss.map some) ∧
  Wants T (ambOf H I ss A) E (F ss) fun (s, p) => ∀ v A' I' σ' H' δ', Ok T (ambOf H I ss A) A' I' σ' H' δ' → parD ss δ' = .ok p → RetOk T (ambOf H I ss A) A' I' H' δ' v s → Q v H'

theorem parD_exc {ss : List S} {δ : Dl} {x : XD} (h : parD ss δ = .exc x) : False := by
  unfold parD at h
  split at h
  · split at h <;> cases h
  · cases h
theorem Ok.pad {T : Ctx} {M : Amb} {A : Pl} {I H : Hp} {vs : List V} {ss : List S} (m : Nat) (x : Ok T M A I (vs.map some) H (ss.map some)) :
    Ok T M A I (vs.map some ++ List.replicate m none) H (ss.map some ++ List.replicate m none) := by
  have hl : vs.length = ss.length := by simpa using x.len
  have down : ∀ (i : Nat) (s : S), (ss.map some ++ List.replicate m none)[i]? = some (some s) → (ss.map some)[i]? = some (some s) ∧ i < ss.length := fun i s e => by
    by_cases hi : i < ss.length
    · rw [List.getElem?_append_left (by simpa using hi)] at e
      exact ⟨e, hi⟩
    · rw [List.getElem?_append_right (by simpa using hi)] at e
      rw [List.getElem?_replicate] at e
      split at e <;> cases e
  have up : ∀ (i : Nat) (s : S), (ss.map some)[i]? = some (some s) → (ss.map some ++ List.replicate m none)[i]? = some (some s) := fun i s e => by
    have hi : i < (ss.map some).length := by
      by_cases hi : i < (ss.map some).length
      · exact hi
      · rw [List.getElem?_eq_none (by omega)] at e
        cases e
    rw [List.getElem?_append_left hi]
    exact e
  have dm : ∀ i, mutAt (ss.map some ++ List.replicate m none) i → mutAt (ss.map some) i := fun i ⟨s, e, q⟩ => ⟨s, (down i s e).1, q⟩
  refine ⟨x.sub, x.gro, x.fre, x.kee, by simp [hl], fun i s e => ?_, fun i j b h1 h2 => x.inj i j b (dm _ h1) (dm _ h2), fun q hq => ?_, fun q hq => ?_⟩
  · obtain ⟨e, hi⟩ := down i s e
    have z := x.sl i s e
    rw [List.getElem?_append_left (by simpa [hl] using hi)]
    exact z
  · obtain ⟨⟨d, e⟩, ea⟩ := x.prs q hq
    exact ⟨⟨d, up _ _ e⟩, ea⟩
  · obtain ⟨e, ea⟩ := x.lks q hq
    exact ⟨up _ _ e, ea⟩
section
variable {P : Program} {w : World} {K : PySem.W.Frag} {mg : Str → Option Value} {base : Heap} {T : Ctx}
/-- THE RULE for a def -/
theorem fn_ok {x qual : Str} {st : Stmt} {f : Addr} {fd : FuncData} {N ps : List Str} {k m : Nat} {F : FnSem} {fb : FS} (FF : Fun K x qual st f fd) (S : FnScope N ps (defScope st)) (hm : N.length = m) (hF : F = fnF m fb)
    (hbody : ∀ (cdv : Value) (A : Around) (outer : List Env) (s : Shared) (H : Hp) (E : XK), Room k (A.deeper (envOfC qual (defScope st) s.heap.objs.size f cdv)) →
      Passes (L2.CX P w) (cxOf (L2.CX P w) P w K mg base N qual (defScope st) f cdv A outer s H E) E →
      Takes (cxOf (L2.CX P w) P w K mg base N qual (defScope st) f cdv A outer s H E) (fun cls d _ H => E cls d H) →
      PassesOwn (model P w) (A.deeper (envOfC qual (defScope st) s.heap.objs.size f cdv)) (envOfC qual (defScope st) s.heap.objs.size f cdv) (cxOf (L2.CX P w) P w K mg base N qual (defScope st) f cdv A outer s H E).xe →
      DSs T (cxOf (L2.CX P w) P w K mg base N qual (defScope st) f cdv A outer s H E) E (defBody st) fb) :
    FnOk P w K mg base (L2.CX P w) (k + 1) f fd ps (spF T ps.length F) := by
  subst hm
  refine FF.okX S (fun vs H Q E h => ?_) (fun cdv A outer s H vs Q E hr h => ?_)
  · obtain ⟨I, ss, A, hl, _⟩ := h
    exact hl
  · obtain ⟨I, ss, A', hl, hg, ok, w⟩ := h
    have tk : Takes (cxOf (L2.CX P ‹World›) P ‹World› K mg base N qual (defScope st) f cdv A outer s H E) (fun cls d _ H => E cls d H) := takes_of rfl rfl rfl rfl
    have ps : Passes (L2.CX P ‹World›) (cxOf (L2.CX P ‹World›) P ‹World› K mg base N qual (defScope st) f cdv A outer s H E) E := passes_call tk fun _ _ _ _ h => h
    refine ⟨_, hbody cdv A outer s H E hr ps tk (passes_of rfl), ?_⟩
    have hls : vs.length = ss.length := by simpa using ok.len
    refine ⟨ambOf H I ss A', A', I, ss.map some ++ List.replicate (N.length - ss.length) none, ?_, ?_⟩
    · have := ok.pad (N.length - ss.length)
      unfold L2.start
      rw [hls]
      exact this
    · rw [hF] at w
      refine w.bind.imp fun (l, δ1) e1 w1 => ?_
      replace w1 : Wants T (ambOf H I ss A') E (parD ss δ1 >>= fun p => match l with
        | .rt s => pure (s, p)
        | .nx => pure (.imm .non, p)
        | _ => .stuck) _ := w1
      cases q : parD ss δ1 with
      | stuck => rw [q] at w1; exact w1.elim
      | exc x => exact (parD_exc q).elim
      | ok p =>
        rw [q] at w1
        cases l with
        | nx => exact fun A2 I2 σ2 H2 ok2 => w1 .non A2 I2 σ2 H2 δ1 ok2 q (show Rep T I2 .non .non from .ofnon)
        | bk => exact w1.elim
        | ct => exact w1.elim
        | rt s => exact fun A2 I2 σ2 H2 v ok2 rr => w1 v A2 I2 σ2 H2 δ1 ok2 q rr
end

/-! ### calls -/
def takeRs : List R → Dl → Out (List D × Dl)
  | [], δ => .ok ([], δ)
  | r :: rs, δ => do
    let (d, δ1) ← takeR r δ
    let (ds, δ2) ← takeRs rs δ1
    pure (d :: ds, δ2)
theorem takeRs_exc : ∀ {rs : List R} {δ : Dl} {x : XD}, takeRs rs δ = .exc x → False
  | [], _, _, h => by cases h
  | r :: rs, δ, x, h => by
    rcases bind_excE (m := takeR r δ) h with h | ⟨a, _, h⟩
    · exact takeR_exc h
    · rcases bind_excE (m := takeRs rs a.2) h with h | ⟨b, _, h⟩
      · exact takeRs_exc h
      · cases h
section
variable {T : Ctx} {M : Amb} {A : Pl} {I H I' H' : Hp} {σ : L2.St} {δ δ' : Dl} {E : XK}
theorem RepRs.mono (h : Same I I') : ∀ {rs : List R} {vs : List V}, RepRs T I σ rs vs → RepRs T I' σ rs vs
  | [], _, x => x
  | _ :: _, _, ⟨v, ws, e, h1, h2⟩ => ⟨v, ws, e, h1.mono h, RepRs.mono h h2⟩
theorem Ok.hands : ∀ {rs : List R} {vs : List V} {I : Hp} {δ δ' : Dl} {ds : List D}, Ok T M A I σ H δ → RepRs T I σ rs vs → takeRs rs δ = .ok (ds, δ') →
    ∃ I', Ok T M A I' σ H δ' ∧ Stp A δ I H δ' I' H ∧ Reps T I' ds vs
  | [], vs, I, δ, δ', ds, x, h, e => by
    cases e
    have h : vs = [] := h
    subst h
    exact ⟨I, x, .refl, .nil⟩
  | r :: rs, vs, I, δ, δ', ds, x, h, e => by
    obtain ⟨v, ws, rfl, h1, h2⟩ := h
    obtain ⟨⟨d, δ1⟩, e1, e⟩ := bind_okE (m := takeR r δ) e
    obtain ⟨⟨ds1, δ2⟩, e2, e⟩ := bind_okE (m := takeRs rs δ1) e
    cases e
    obtain ⟨I1, x1, st1, r1⟩ := x.hand h1 e1
    obtain ⟨I2, x2, st2, r2⟩ := Ok.hands x1 (h2.mono st1.gro) e2
    exact ⟨I2, x2, st1.trans st2, .cons (r1.mono st2.gro) r2⟩
/-- arguments that are data: what a callee starts from -/
theorem ok_imm {ds : List D} {vs : List V} (s : Same I H) (r : Reps T I ds vs) (A : Pl) : Ok T ⟨H, I, [], []⟩ A I (vs.map some) H ((ds.map S.imm).map some) := by
  have hg : ∀ (i : Nat) (s : S), ((ds.map S.imm).map some)[i]? = some (some s) → ∃ d, ds[i]? = some d ∧ s = .imm d := fun i s e => by
    simp only [List.map_map, List.getElem?_map, Option.map_eq_some_iff] at e
    obtain ⟨d, h1, h2⟩ := e
    exact ⟨d, h1, (Option.some.inj h2).symm⟩
  have nm : ∀ i, ¬ mutAt ((ds.map S.imm).map some) i := fun i ⟨s, e, m⟩ => by
    obtain ⟨d, _, rfl⟩ := hg i s e
    cases m
  refine ⟨s, .refl _, fun _ _ h => .inl h, fun _ _ h _ => h, by simp [r.len], fun i s e => ?_, fun i j b h1 => (nm i h1).elim, fun q hq => (by cases hq), fun q hq => (by cases hq)⟩
  obtain ⟨d, h1, rfl⟩ := hg i s e
  obtain ⟨v, h2, h3⟩ := r.get h1
  exact ⟨v, by rw [List.getElem?_map, h2]; rfl, h3⟩
theorem good_imm (ds : List D) : goodArgs (ds.map S.imm) = true := by
  cases ds with
  | nil => rfl
  | cons d ds => simp [goodArgs, S.isImm]
theorem exOf_imm (ds : List D) (A : Pl) : exOf (ds.map S.imm) A = [] := by
  cases ds <;> rfl
/-- behind a callee that shares nothing: new things alone -/
theorem Ok.newOf {A' : Pl} {σ' : L2.St} (s : Same I H) (x : Ok T ⟨H, I, [], []⟩ A' I' σ' H' δ') : New I H I' H' := ⟨x.gro, x.sub, fun b o e => x.kee b o e fun p hp => (by cases hp), x.fre⟩
/-- an exception of a callee is one of ours -/
theorem XOk.up (x : Ok T M A I σ H δ) {y : XD} {cls : Value} {dx : Option Addr} (h : XOk T ⟨H, I, [], []⟩ y cls dx H') : XOk T M y cls dx H' := by
  obtain ⟨I', h1, h2, h3, h4, h5⟩ := h
  refine ⟨I', x.gro.trans h1, fun b o e => ?_, h3, fun b o e hn => h4 b o (x.kee b o e hn) fun p hp => (by cases hp), h5⟩
  rcases h2 b o e with z | z
  · exact x.fre b o z
  · exact .inr ((x.fresh (p := (b, b)) z z).h b (.inl rfl))
/-- the call of a def on data -/
def callF (F : FnSem) (dds : List D) (fa : FA) : FE := fun δ => do
  let (rs, δ1) ← fa δ
  let (ds, δ2) ← takeRs rs δ1
  let (s, _) ← F ((ds ++ dds).map S.imm)
  match s with
  | .imm d => pure (.imm d, δ2)
  | _ => .stuck
/-- .. that hands back a fresh object -/
def callNF (F : FnSem) (dds : List D) (fa : FA) : FN := fun δ => do
  let (rs, δ1) ← fa δ
  let (ds, δ2) ← takeRs rs δ1
  let (s, _) ← F ((ds ++ dds).map S.imm)
  match s with
  | .own d => pure (d, δ2)
  | _ => .stuck
variable {X : Cx} {k : Nat} {f : Addr} {fd : FuncData} {ps : List Str} {n : Nat} {F : FnSem} {x : Str} {p pos : Pos} {e : Expr} {es : List Expr} {fa : FA} {dds : List D} {dvs : List V} {dus : List Value}

def LenA (fa : FA) (m : Nat) : Prop := ∀ δ rs δ', fa δ = .ok (rs, δ') → rs.length = m
theorem lenA_nil : LenA nilA 0 := fun δ rs δ' h => by
  cases h
  rfl
theorem lenA_cons {f : FE} {g : FA} {m : Nat} (h : LenA g m) : LenA (consA f g) (m + 1) := fun δ rs δ' e => by
  obtain ⟨⟨r, δ1⟩, _, e⟩ := bind_okE (m := f δ) e
  obtain ⟨⟨qs, δ2⟩, e2, e⟩ := bind_okE (m := g δ1) e
  cases e
  simp only [List.length_cons, h _ _ _ e2]
theorem takeRs_len : ∀ {rs : List R} {δ δ' : Dl} {ds : List D}, takeRs rs δ = .ok (ds, δ') → ds.length = rs.length
  | [], _, _, _, h => by
    cases h
    rfl
  | r :: rs, δ, δ', ds, h => by
    obtain ⟨⟨d, δ1⟩, e1, e⟩ := bind_okE (m := takeR r δ) h
    obtain ⟨⟨ds1, δ2⟩, e2, e⟩ := bind_okE (m := takeRs rs δ1) e
    cases e
    simp only [List.length_cons, takeRs_len e2]
/-- what a callee on data is asked -/
theorem sp_imm {ds : List D} {vs : List V} {Q : VK} (ok : Ok T M A I σ H δ) (r : Reps T I ds vs) (hl : ds.length = n) {k : S × Option D → Prop} (w : Wants T M E (F (ds.map S.imm)) k)
    (h : ∀ s p, k (s, p) → ∀ v A' I' H' σ' δ', New I H I' H' → Ok T ⟨H, I, [], []⟩ A' I' σ' H' δ' → RetOk T ⟨H, I, [], []⟩ A' I' H' δ' v s → Q v H') : spF T n F vs H Q E := by
  refine ⟨I, ds.map S.imm, A, by rw [r.len, hl], good_imm ds, ?_, ?_⟩
  · unfold ambOf
    rw [exOf_imm]
    exact ok_imm ok.sub r A
  · unfold ambOf
    rw [exOf_imm]
    cases q : F (ds.map S.imm) with
    | stuck => rw [q] at w; exact w.elim
    | exc y =>
      rw [q] at w
      exact fun cls dx H' z => w cls dx H' (XOk.up ok z)
    | ok a =>
      rw [q] at w
      obtain ⟨s, p⟩ := a
      exact fun v A' I' σ' H' δ' ok' _ rr => h s p w v A' I' H' σ' δ' (Ok.newOf ok.sub ok') ok' rr
theorem tCall_of {m : Nat} {t : TA} {dds : List D} {dvs : List V} (ht : ∀ σ H Q, tA T E fa σ H Q → t σ H Q) (hl : LenA fa m) (hd : ∀ I, Reps T I dds dvs) (hn : m + dds.length = n) {σ : L2.St} {H : Hp} {Q : VK} (h : tE T E (callF F dds fa) σ H Q) : tCall (spF T n F) dvs E t σ H Q := by
  obtain ⟨M, A, I, δ, ok, w⟩ := h
  refine ht _ _ _ ⟨M, A, I, δ, ok, w.bind.imp fun (rs, δ1) e1 w1 vs I1 H1 ok1 st1 r1 => ?_⟩
  replace w1 : Wants T M E (takeRs rs δ1 >>= fun z => F ((z.1 ++ dds).map S.imm) >>= fun y => match y.1 with
    | .imm d => pure (R.imm d, z.2)
    | _ => .stuck) _ := w1
  cases q : takeRs rs δ1 with
  | stuck => rw [q] at w1; exact w1.elim
  | exc x => exact (takeRs_exc q).elim
  | ok z =>
    obtain ⟨ds, δ2⟩ := z
    rw [q, ok_bind] at w1
    obtain ⟨I2, ok2, st2, rr⟩ := ok1.hands r1 q
    refine sp_imm ok2 (rr.append (hd I2)) (by rw [List.length_append, takeRs_len q, hl _ _ _ e1, hn]) w1.bind fun s p wk v A' I' H' σ' δ' nw ok' ro => ?_
    cases s with
    | imm d => exact wk v I' H' (ok2.new nw) ((st1.trans st2).trans nw.stp) ro
    | _ => exact wk.elim
theorem tCallN_of {m : Nat} {t : TA} {dds : List D} {dvs : List V} (ht : ∀ σ H Q, tA T E fa σ H Q → t σ H Q) (hl : LenA fa m) (hd : ∀ I, Reps T I dds dvs) (hn : m + dds.length = n) {σ : L2.St} {H : Hp} {Q : VK} (h : tN T E (callNF F dds fa) σ H Q) : tCall (spF T n F) dvs E t σ H Q := by
  obtain ⟨M, A, I, δ, ok, w⟩ := h
  refine ht _ _ _ ⟨M, A, I, δ, ok, w.bind.imp fun (rs, δ1) e1 w1 vs I1 H1 ok1 st1 r1 => ?_⟩
  replace w1 : Wants T M E (takeRs rs δ1 >>= fun z => F ((z.1 ++ dds).map S.imm) >>= fun y => match y.1 with
    | .own d => pure (d, z.2)
    | _ => .stuck) _ := w1
  cases q : takeRs rs δ1 with
  | stuck => rw [q] at w1; exact w1.elim
  | exc x => exact (takeRs_exc q).elim
  | ok z =>
    obtain ⟨ds, δ2⟩ := z
    rw [q, ok_bind] at w1
    obtain ⟨I2, ok2, st2, rr⟩ := ok1.hands r1 q
    refine sp_imm ok2 (rr.append (hd I2)) (by rw [List.length_append, takeRs_len q, hl _ _ _ e1, hn]) w1.bind fun s p wk v A' I' H' σ' δ' nw ok' ro => ?_
    cases s with
    | own d =>
      obtain ⟨p, rfl, o, ap⟩ := ro
      have n1 : H1 p.1 = none := (ap p.1 (.inl rfl)).2.1
      have n2 : H1 p.2 = none := (ap p.2 (.inr rfl)).2.1
      have fr := ok2.fresh n1 n2
      have back : ∀ b, H1 b = none → H b = none := fun b hb => by
        cases z : H b with
        | none => rfl
        | some o =>
          obtain ⟨o', z'⟩ := st1.dom b o z
          rw [hb] at z'
          cases z'
      exact wk p I' H' (ok2.new nw) ((st1.trans st2).trans nw.stp) o ⟨fun b hb => (ap b hb).1, fr.h, fr.s, fr.x⟩ (back _ n1) (back _ n2)
    | _ => exact wk.elim
theorem de_call {m : Nat} (FO : FnOk X.prog X.w X.K X.mg X.base (L2.CX X.prog X.w) k f fd ps (spF T n F)) (hr : Room k X.A) (hm : X.mg x = some (.ref f)) (hk : PySem.W.keepIn X.K (.ref f) = true) (hb : Binds X.K fd ps []) (hx : Passes (L2.CX X.prog X.w) X E)
    (ha : DA T X E (e :: es) fa) (hl : LenA fa m) (hn : m = n := by rfl) (hg : Gl X x := by rfl) (hdb : (x == ("__debug__" : Str)) = false := by decide) (he : starEach (e :: es) X.env = (false, eval e X.env) :: starEach es X.env := by rfl) (hpl : (backTo pos (starEach es X.env)).any (·.1) = false := by rfl) :
    DE T X E (.Call (.Name x p) (e :: es) [] pos) (callF F [] fa) :=
  PE.of (pe_call FO hr hg hm hk hb .nil hx ha hdb he hpl) fun _ _ _ h => tCall_of (fun _ _ _ z => z) hl (fun _ => .nil) (by simpa using hn) h
theorem dn_call {m : Nat} (FO : FnOk X.prog X.w X.K X.mg X.base (L2.CX X.prog X.w) k f fd ps (spF T n F)) (hr : Room k X.A) (hm : X.mg x = some (.ref f)) (hk : PySem.W.keepIn X.K (.ref f) = true) (hb : Binds X.K fd ps []) (hx : Passes (L2.CX X.prog X.w) X E)
    (ha : DA T X E (e :: es) fa) (hl : LenA fa m) (hn : m = n := by rfl) (hg : Gl X x := by rfl) (hdb : (x == ("__debug__" : Str)) = false := by decide) (he : starEach (e :: es) X.env = (false, eval e X.env) :: starEach es X.env := by rfl) (hpl : (backTo pos (starEach es X.env)).any (·.1) = false := by rfl) :
    DN T X E (.Call (.Name x p) (e :: es) [] pos) (callNF F [] fa) :=
  PE.of (pe_call FO hr hg hm hk hb .nil hx ha hdb he hpl) fun _ _ _ h => tCallN_of (fun _ _ _ z => z) hl (fun _ => .nil) (by simpa using hn) h
end
end DE
set_option Elab.async false
set_option linter.all false
set_option maxRecDepth 100000
set_option maxHeartbeats 2000000
namespace DE
open PySem PySem.Spec PyProof.Rows L2

/-! ### calls that share their first argument -/
/-- with the slot j shared -/
def shareF {α : Type} (F : FnSem) (j : Nat) (ds : List D) (δ : Dl) (k : S → Dl → Out α) : Out α := match δ[j]? with
  | some (some s) => if s.live then do
      let (z, p) ← F (.par s.con :: ds.map S.imm)
      match p with
      | some d' => k z (δ.set j (some (s.put d')))
      | none => .stuck
    else .stuck
  | _ => .stuck
def callIF (F : FnSem) (dds : List D) (fa : FA) : FE := fun δ => do
  let (rs, δ1) ← fa δ
  match rs with
  | .slot j :: qs => do
    let (ds, δ2) ← takeRs qs δ1
    shareF F j (ds ++ dds) δ2 fun z δ3 => match z with
      | .imm d => .ok (.imm d, δ3)
      | _ => .stuck
  | _ => .stuck
section
variable {T : Ctx} {M : Amb} {A : Pl} {I H I' H' : Hp} {σ : L2.St} {δ δ' : Dl} {E : XK} {j : Nat} {s : S}
theorem XOk.upI (x : Ok T M A I σ H δ) (hs : δ[j]? = some (some s)) (hl : s.live = true) {n : Nat} {y : XD} {cls : Value} {dx : Option Addr} (h : XOk T ⟨H, I, [(n, A j)], []⟩ y cls dx H') : XOk T M y cls dx H' := by
  obtain ⟨I', h1, h2, h3, h4, h5⟩ := h
  refine ⟨I', x.gro.trans h1, fun b o e => ?_, h3, fun b o e hn => h4 b o (x.kee b o e hn) fun p hp => ?_, h5⟩
  · rcases h2 b o e with z | z
    · exact x.fre b o z
    · exact .inr ((x.fresh (p := (b, b)) z z).h b (.inl rfl))
  · have hp : p = (n, A j) := by simpa using hp
    subst hp
    have z := x.sl j s hs
    cases s with
    | own d =>
      refine ⟨fun f => ?_, fun f => ?_⟩
      · rw [(z.2.2 b (.inl f)).2] at e; cases e
      · rw [(z.2.2 b (.inr f)).2] at e; cases e
    | par d =>
      have := hn _ z.2.2.2
      exact ⟨this.1, this.2⟩
    | _ => cases hl
/-- what a callee with a shared first argument is asked -/
theorem sp_io {n : Nat} {F : FnSem} {ds : List D} {vs : List V} {Q : VK} {α : Type} {kk : S → Dl → Out α} (ok : Ok T M A I σ H δ) (r : Reps T I ds vs) (hv : σ[j]? = some (some v)) (hl : ds.length + 1 = n) {k : α → Prop} (w : Wants T M E (shareF F j ds δ kk) k)
    (h : ∀ z δ1 v' A' I' H' σ' δ' nn, Ok T M A I' σ H' δ1 → Stp A δ I H δ1 I' H' → Ok T ⟨H, I, [(nn, A j)], []⟩ A' I' σ' H' δ' → RetOk T ⟨H, I, [(nn, A j)], []⟩ A' I' H' δ' v' z → Wants T M E (kk z δ1) k → Q v' H') : spF T n F (v :: vs) H Q E := by
  unfold shareF at w
  split at w
  · rename_i s hs
    split at w
    · rename_i hlv
      have z := ok.sl j s hs
      have ow : OwnRep T I H s.con (A j) ∧ (∀ b, fpt A j b → I b = none) ∧ v = .ref (A j).1 := by
        cases s with
        | own d =>
          refine ⟨z.2.1, fun b f => (z.2.2 b f).1, ?_⟩
          have := z.1
          rw [hv] at this
          exact Option.some.inj (Option.some.inj this)
        | par d =>
          refine ⟨z.2.1, z.2.2.1, ?_⟩
          have := z.1
          rw [hv] at this
          exact Option.some.inj (Option.some.inj this)
        | _ => cases hlv
      obtain ⟨ow, on, ev⟩ := ow
      subst ev
      have e0 : exOf (S.par s.con :: ds.map S.imm) (fun _ => A j) = [(0, A j)] := rfl
      have hg : ∀ (i : Nat) (t : S), ((S.par s.con :: ds.map S.imm).map some)[i]? = some (some t) → (i = 0 ∧ t = .par s.con) ∨ ∃ i' d, i = i' + 1 ∧ ds[i']? = some d ∧ t = .imm d := fun i t e => by
        cases i with
        | zero => exact .inl ⟨rfl, (Option.some.inj (Option.some.inj e)).symm⟩
        | succ i' =>
          simp only [List.map_cons, List.map_map, List.getElem?_cons_succ, List.getElem?_map, Option.map_eq_some_iff] at e
          obtain ⟨d, h1, h2⟩ := e
          exact .inr ⟨i', d, rfl, h1, (Option.some.inj h2).symm⟩
      have okc : Ok T ⟨H, I, [(0, A j)], []⟩ (fun _ => A j) I ((V.ref (A j).1 :: vs).map some) H ((S.par s.con :: ds.map S.imm).map some) := by
        refine ⟨ok.sub, .refl _, fun _ _ h => .inl h, fun _ _ h _ => h, by simp [r.len], fun i t e => ?_, fun a b c h1 h2 _ _ => ?_, fun q hq => ?_, fun q hq => (by cases hq)⟩
        · rcases hg i t e with ⟨rfl, rfl⟩ | ⟨i', d, rfl, h1, rfl⟩
          · exact ⟨rfl, ow, on, by simp⟩
          · obtain ⟨u, h2, h3⟩ := r.get h1
            exact ⟨u, by simp only [List.map_cons, List.getElem?_cons_succ, List.getElem?_map, h2]; rfl, h3⟩
        · obtain ⟨t1, e1, m1⟩ := h1
          obtain ⟨t2, e2, m2⟩ := h2
          rcases hg _ _ e1 with ⟨rfl, _⟩ | ⟨_, _, _, _, rfl⟩
          · rcases hg _ _ e2 with ⟨rfl, _⟩ | ⟨_, _, _, _, rfl⟩
            · rfl
            · cases m2
          · cases m1
        · have hq : q = (0, A j) := by simpa using hq
          subst hq
          exact ⟨⟨_, rfl⟩, rfl⟩
      refine ⟨I, S.par s.con :: ds.map S.imm, fun _ => A j, by simp [r.len, hl], ?_, okc, ?_⟩
      · simp [goodArgs, S.isImm]
      · show Wants T ⟨H, I, [(0, A j)], []⟩ E (F (S.par s.con :: ds.map S.imm)) _
        have wb := w.bind
        cases q : F (S.par s.con :: ds.map S.imm) with
        | stuck => rw [q] at w; exact w.elim
        | exc y =>
          rw [q] at wb
          exact fun cls dx H' z' => wb cls dx H' (XOk.upI ok hs hlv z')
        | ok a =>
          rw [q] at wb
          obtain ⟨zz, p⟩ := a
          intro v' A' I' σ' H' δ' ok' hp rr
          replace ok' : Ok T ⟨H, I, [(0, A j)], []⟩ A' I' σ' H' δ' := ok'
          obtain ⟨⟨d', e'⟩, ea⟩ := ok'.prs (0, A j) (by simp)
          obtain ⟨_, ow', on', _⟩ := ok'.sl 0 _ e'
          have ea : A' 0 = A j := ea
          have hp' : p = some d' := by
            cases δ' with
            | nil => cases e'
            | cons x0 xr =>
              have : x0 = some (.par d') := by simpa using e'
              subst this
              have hp : parD (S.par s.con :: ds.map S.imm) (some (S.par d') :: xr) = .ok p := hp
              simp only [parD] at hp
              injection hp with hp
              exact hp.symm
          subst hp'
          have u := ok.chg (d := d') hs hlv ok'.gro ok'.sub ok'.fre (fun b o e hn => ok'.kee b o e fun q hq => by
            have hq : q = (0, A j) := by simpa using hq
            subst hq
            exact ⟨fun f => hn (.inl f), fun f => hn (.inr f)⟩) (by rw [← ea]; exact ow') (fun b f => on' b (by rw [fpt, ea]; exact f))
          exact h zz _ v' A' I' H' σ' δ' 0 u.1 u.2 ok' rr wb
    · exact w.elim
  · exact w.elim
variable {X : Cx} {k : Nat} {f : Addr} {fd : FuncData} {ps : List Str} {n : Nat} {F : FnSem} {x : Str} {p pos : Pos} {e : Expr} {es : List Expr} {fa : FA} {dds : List D} {dvs : List V}
theorem tCallI_of {m : Nat} {t : TA} (ht : ∀ σ H Q, tA T E fa σ H Q → t σ H Q) (hl : LenA fa m) (hd : ∀ I, Reps T I dds dvs) (hn : m + dds.length = n) {σ : L2.St} {H : Hp} {Q : VK} (h : tE T E (callIF F dds fa) σ H Q) : tCall (spF T n F) dvs E t σ H Q := by
  obtain ⟨M, A, I, δ, ok, w⟩ := h
  refine ht _ _ _ ⟨M, A, I, δ, ok, w.bind.imp fun (rs, δ1) e1 w1 vs I1 H1 ok1 st1 r1 => ?_⟩
  cases rs with
  | nil => exact w1.elim
  | cons r qs =>
    cases r with
    | imm d => exact w1.elim
    | slot j =>
      obtain ⟨v, ws, rfl, rv, r2⟩ := r1
      replace w1 : Wants T M E (takeRs qs δ1 >>= fun z => shareF F j (z.1 ++ dds) z.2 fun z δ3 => match z with
        | .imm d => .ok (R.imm d, δ3)
        | _ => .stuck) _ := w1
      cases q : takeRs qs δ1 with
      | stuck => rw [q] at w1; exact w1.elim
      | exc x => exact (takeRs_exc q).elim
      | ok z =>
        obtain ⟨ds, δ2⟩ := z
        rw [q, ok_bind] at w1
        obtain ⟨I2, ok2, st2, rr⟩ := ok1.hands r2 q
        have hlen := hl _ _ _ e1
        simp only [List.length_cons] at hlen
        refine sp_io ok2 (rr.append (hd I2)) rv (by rw [List.length_append, takeRs_len q]; omega) w1 fun z δ3 v' A' I' H' σ' δ' nn ok3 st3 ok' ro wk => ?_
        cases z with
        | imm d => exact wk v' I' H' ok3 ((st1.trans st2).trans st3) ro
        | _ => exact wk.elim
theorem de_callI {m : Nat} (FO : FnOk X.prog X.w X.K X.mg X.base (L2.CX X.prog X.w) k f fd ps (spF T n F)) (hr : Room k X.A) (hm : X.mg x = some (.ref f)) (hk : PySem.W.keepIn X.K (.ref f) = true) (hb : Binds X.K fd ps []) (hx : Passes (L2.CX X.prog X.w) X E)
    (ha : DA T X E (e :: es) fa) (hl : LenA fa m) (hn : m = n := by rfl) (hg : Gl X x := by rfl) (hdb : (x == ("__debug__" : Str)) = false := by decide) (he : starEach (e :: es) X.env = (false, eval e X.env) :: starEach es X.env := by rfl) (hpl : (backTo pos (starEach es X.env)).any (·.1) = false := by rfl) :
    DE T X E (.Call (.Name x p) (e :: es) [] pos) (callIF F [] fa) :=
  PE.of (pe_call FO hr hg hm hk hb .nil hx ha hdb he hpl) fun _ _ _ h => tCallI_of (fun _ _ _ z => z) hl (fun _ => .nil) (by simpa using hn) h
end
end DE
set_option Elab.async false
set_option linter.all false
set_option maxRecDepth 100000
set_option maxHeartbeats 2000000
namespace DE
open PySem PySem.Spec PyProof.Rows L2

/-! ### targets -/
inductive Tg where
  | nm (i : Nat)
  | tp (ts : List Tg)
mutual
def setTg : Tg → D → Dl → Out Dl
  | .nm i, d, δ => putS i (.imm d) δ
  | .tp ts, .tup ds, δ => setTgs ts ds δ
  | _, _, _ => .stuck
def setTgs : List Tg → List D → Dl → Out Dl
  | [], [], δ => .ok δ
  | t :: ts, d :: ds, δ => do
    let δ1 ← setTg t d δ
    setTgs ts ds δ1
  | _, _, _ => .stuck
end
mutual
def Tg.ix : Tg → List Nat
  | .nm i => [i]
  | .tp ts => Tgs.ix ts
def Tgs.ix : List Tg → List Nat
  | [] => []
  | t :: ts => t.ix ++ Tgs.ix ts
end
def tG (T : Ctx) (t : Tg) : TG := fun v σ H Q => ∃ M A I δ d δ', Ok T M A I σ H δ ∧ Rep T I d v ∧ setTg t d δ = .ok δ' ∧
  ∀ σ', Ok T M A I σ' H δ' → σ'.length = σ.length → (∀ i, i ∉ t.ix → σ'[i]? = σ[i]?) → (∀ i, mutAt δ' i → mutAt δ i) → Q σ' H
def tGs (T : Ctx) (t : List Tg) : TGs := fun vs σ H Q => ∃ M A I δ ds δ', Ok T M A I σ H δ ∧ Reps T I ds vs ∧ setTgs t ds δ = .ok δ' ∧
  ∀ σ', Ok T M A I σ' H δ' → σ'.length = σ.length → (∀ i, i ∉ Tgs.ix t → σ'[i]? = σ[i]?) → (∀ i, mutAt δ' i → mutAt δ i) → Q σ' H
abbrev DG (T : Ctx) (X : Cx) (e : Expr) (t : Tg) : Prop := PG X e (tG T t)
abbrev DGs (T : Ctx) (X : Cx) (es : List Expr) (t : List Tg) : Prop := PGs X es (tGs T t)
theorem PG.of {X : Cx} {e : Expr} {t t' : TG} (h : PG X e t) (w : ∀ v σ H Q, t' v σ H Q → t v σ H Q) : PG X e t' := ⟨fun pins s σ H v u Q I r q => h.run pins s σ H v u Q I r (w _ _ _ _ q)⟩
theorem PGs.of {X : Cx} {e : List Expr} {t t' : TGs} (h : PGs X e t) (w : ∀ v σ H Q, t' v σ H Q → t v σ H Q) : PGs X e t' := ⟨fun pins s σ H v u Q I r q => h.run pins s σ H v u Q I r (w _ _ _ _ q)⟩
section
variable {T : Ctx} {X : Cx} {E : XK} {e : Expr} {es : List Expr} {pos : Pos}
theorem dg_name {i : Nat} {x : Str} (hN : X.N.Nodup) (hi : X.N[i]? = some x := by rfl) (hx : Loc X.env.scope x := by first | exact Or.inl rfl | exact Or.inr rfl) (hf : X.fn x = true ∨ X.env.scope.names.lookup x = some .local := by first | exact .inl rfl | exact .inr rfl) : DG T X (.Name x pos) (.nm i) :=
  PG.of (pg_name hN hi hx hf) fun v σ H Q ⟨M, A, I, δ, d, δ', ok, r, e, q⟩ => by
    simp only [setTg, putS] at e
    split at e
    · rename_i h
      cases e
      refine q _ (ok.set h r) (by simp) (fun j hj => ?_) fun j hj => ?_
      · simp only [Tg.ix, List.mem_singleton] at hj
        exact List.getElem?_set_ne (Ne.symm hj)
      · rcases mutAt_set hj with ⟨_, h⟩ | ⟨_, z, e, m⟩
        · exact h
        · cases e; cases m
    · cases e
theorem dgs_nil : DGs T X [] [] := PGs.of pgs_nil fun v σ H Q ⟨M, A, I, δ, ds, δ', ok, r, e, q⟩ => by
  cases ds with
  | nil =>
    rw [setTgs] at e
    cases e
    exact ⟨r.nil_inv, q σ ok rfl (fun _ _ => rfl) fun _ h => h⟩
  | cons d ds => rw [setTgs] at e <;> first | cases e | (intros; intro h; cases h)
theorem dgs_cons {t : Tg} {ts : List Tg} (h : DG T X e t) (hr : DGs T X es ts) (hs : (assignEach (e :: es) X.env).map (·.2) = assign e X.env :: (assignEach es X.env).map (·.2) := by rfl) : DGs T X (e :: es) (t :: ts) :=
  PGs.of (pgs_cons h hr hs) fun v σ H Q ⟨M, A, I, δ, ds, δ', ok, r, e, q⟩ => by
    cases ds with
    | nil => rw [setTgs] at e <;> first | cases e | (intros; intro h; cases h)
    | cons d ds =>
      rw [setTgs] at e
      obtain ⟨δ1, e1, e⟩ := bind_okE e
      obtain ⟨w, vr, rfl, r1, r2⟩ := r.cons_inv
      refine ⟨w, vr, rfl, M, A, I, δ, d, δ1, ok, r1, e1, fun σ1 ok1 l1 k1 m1 => ⟨M, A, I, δ1, ds, δ', ok1, r2, e, fun σ2 ok2 l2 k2 m2 => q σ2 ok2 (l2.trans l1) (fun i hi => ?_) fun i hi => m1 i (m2 i hi)⟩⟩
      simp only [Tgs.ix, List.mem_append, not_or] at hi
      exact (k2 i hi.2).trans (k1 i hi.1)
theorem setTgs_len : ∀ {ts : List Tg} {ds : List D} {δ δ' : Dl}, setTgs ts ds δ = .ok δ' → ds.length = ts.length
  | [], [], _, _, _ => rfl
  | [], d :: ds, _, _, h => by rw [setTgs] at h <;> first | cases h | (intros; intro h; cases h)
  | t :: ts, [], _, _, h => by rw [setTgs] at h <;> first | cases h | (intros; intro h; cases h)
  | t :: ts, d :: ds, δ, δ', h => by
    rw [setTgs] at h
    obtain ⟨δ1, e1, e⟩ := bind_okE h
    simp only [List.length_cons, setTgs_len e]
theorem dg_tup {ts : List Tg} {k : Nat} (h : DGs T X es ts) (hl : ts.length = es.length := by rfl) (hc : X.calm = true := by rfl) (hK : T.K = X.K := by rfl) (hn : (assignEach es X.env).length = es.length := by rfl) (hst : (assignEach es X.env).findIdx? (·.1) = none := by rfl) : DG T X (.Tuple es k pos) (.tp ts) :=
  PG.of (pg_tup hc h hn hst) fun v σ H Q ⟨M, A, I, δ, d, δ', ok, r, e, q⟩ => by
    cases d with
    | tup ds =>
      rw [setTg] at e
      obtain ⟨a, xs, rfl, hq, rr⟩ := r.tup_inv
      refine ⟨a, xs, rfl, ?_, by rw [rr.len, setTgs_len e, hl], M, A, I, δ, ds, δ', ok, rr, e, fun σ' ok' l' k' m' => q σ' ok' l' (fun i hi => k' i (by simpa only [Tg.ix] using hi)) m'⟩
      rw [← hK]
      exact Same.sqt ok.sub hq
    | _ => rw [setTg] at e <;> first | cases e | (intros; intro h; cases h)
end

/-! ### what is walked -/
structure WalkD (T : Ctx) (J : It) (items : List D) (G : Hp → Hp → Prop) : Prop where
  goes : ∀ i I H, i < items.length → Same I H → G I H → J.go i H
  stops : ∀ I H, Same I H → G I H → J.stop items.length H
  yields : ∀ i I H x H' d, items[i]? = some d → Same I H → G I H → J.yld i H x H' → ∃ I', New I H I' H' ∧ Rep T I' d x
abbrev Src := Option Nat
def SrcG (T : Ctx) (A : Pl) (I1 H1 : Hp) (items : List D) : Src → Hp → Hp → Prop
  | none, I, _ => Same I1 I
  | some j, I, H => Same I1 I ∧ H (A j).1 = H1 (A j).1
abbrev FI := Dl → Out ((List D × Src) × Dl)
/-- what is walked stands in a slot of ours -/
def srcOk (items : List D) (src : Src) (δ : Dl) : Prop := match src with
  | none => True
  | some j => δ[j]? = some (some (.own (.lst items))) ∨ δ[j]? = some (some (.lck (.lst items)))
def tI (T : Ctx) (E : XK) (f : FI) : TI := fun σ H R => ∃ M A I δ, Ok T M A I σ H δ ∧
  Wants T M E (f δ) fun ((items, src), δ') => ∀ J I' H', Ok T M A I' σ H' δ' → Stp A δ I H δ' I' H' → srcOk items src δ' → WalkD T J items (SrcG T A I' H' items src) → R J H'
abbrev DI (T : Ctx) (X : Cx) (E : XK) (tg e : Expr) (f : FI) : Prop := PI X tg e (tI T E f)
theorem PI.of {X : Cx} {tg e : Expr} {t t' : TI} (h : PI X tg e t) (w : ∀ σ H R, t' σ H R → t σ H R) : PI X tg e t' := ⟨fun pins s σ H R I q => h.run pins s σ H R I (w _ _ _ q)⟩

def lockD (src : Src) (δ : Dl) : Out Dl := match src with
  | none => .ok δ
  | some j => match δ[j]? with
    | some (some (.own d)) => .ok (δ.set j (some (.lck d)))
    | _ => .stuck
def unlockD (src : Src) (δ : Dl) : Dl := match src with
  | none => δ
  | some j => match δ[j]? with
    | some (some (.lck d)) => δ.set j (some (.own d))
    | _ => δ
def lockM (M : Amb) (I H : Hp) (A : Pl) (items : List D) : Src → Amb
  | none => ⟨M.H0, I, M.ex, M.lk⟩
  | some j => ⟨M.H0, I, M.ex, (j, A j, .lst items, H (A j).1) :: M.lk⟩
section
variable {T : Ctx} {M : Amb} {A : Pl} {I H I' H' I1 H1 : Hp} {σ : L2.St} {δ δ' : Dl} {E : XK} {j : Nat} {items : List D} {src : Src}
theorem Ok.lock (x : Ok T M A I σ H δ) (hs : srcOk items src δ) (e : lockD src δ = .ok δ') : Ok T (lockM M I H A items src) A I σ H δ' ∧ (∀ i, mutAt δ' i ↔ mutAt δ i) := by
  cases src with
  | none =>
    cases e
    exact ⟨⟨x.sub, .refl _, fun _ _ h => .inl h, x.kee, x.len, x.sl, x.inj, x.prs, x.lks⟩, fun _ => .rfl⟩
  | some j =>
    simp only [lockD] at e
    split at e
    · rename_i d hd
      cases e
      have hd' : d = .lst items := by
        rcases hs with hs | hs
        · rw [hd] at hs; cases hs; rfl
        · rw [hd] at hs; cases hs
      subst hd'
      have hf : freeAt δ j = true := by simp only [freeAt, hd]
      have hl := freeAt_lt hf
      have mo : ∀ i, mutAt (δ.set j (some (.lck (.lst items)))) i ↔ mutAt δ i := fun i => ⟨fun h => by
        rcases mutAt_set h with ⟨_, h⟩ | ⟨rfl, _⟩
        · exact h
        · exact ⟨_, hd, rfl⟩, fun ⟨s, e, m⟩ => by
        by_cases h : i = j
        · subst h
          exact ⟨_, List.getElem?_set_self hl, rfl⟩
        · exact ⟨s, by rw [List.getElem?_set_ne (Ne.symm h)]; exact e, m⟩⟩
      refine ⟨⟨x.sub, .refl _, fun _ _ h => .inl h, x.kee, by simp [x.len], fun i s e => ?_, fun a b c h1 h2 => x.inj a b c ((mo _).mp h1) ((mo _).mp h2), fun q hq => ?_, fun q hq => ?_⟩, mo⟩
      · by_cases hi : i = j
        · subst hi
          rw [List.getElem?_set_self hl] at e
          cases e
          obtain ⟨h1, h2, h3⟩ := x.sl i _ hd
          exact ⟨h1, h2, h3, List.mem_cons_self⟩
        · rw [List.getElem?_set_ne (Ne.symm hi)] at e
          have z := x.sl i s e
          cases s with
          | imm d => exact z
          | own d => exact z
          | par d => exact z
          | lck d => exact ⟨z.1, z.2.1, z.2.2.1, List.mem_cons_of_mem _ z.2.2.2⟩
      · obtain ⟨⟨d', e⟩, ea⟩ := x.prs q hq
        refine ⟨⟨d', ?_⟩, ea⟩
        rw [List.getElem?_set_ne fun z => freeAt_par hf (by rw [z]; exact e)]
        exact e
      · rcases List.mem_cons.mp hq with rfl | hq
        · exact ⟨List.getElem?_set_self hl, rfl⟩
        · obtain ⟨e, ea⟩ := x.lks q hq
          refine ⟨?_, ea⟩
          rw [List.getElem?_set_ne fun z => freeAt_lck hf (by rw [z]; exact e)]
          exact e
    · cases e
/-- the ground of a loop's body is left -/
theorem Ok.unlock {A' : Pl} (x0 : Ok T M A I1 σ H1 δ) (hs : srcOk items src δ) (hk : lockD src δ = .ok δ') {σ' : L2.St} {δ2 : Dl} (x : Ok T (lockM M I1 H1 A items src) A' I' σ' H' δ2) : Ok T M A' I' σ' H' (unlockD src δ2) := by
  have gro : ∀ {I2 : Hp}, Same I1 I2 → Same M.I0 I2 := fun h => x0.gro.trans h
  cases src with
  | none =>
    exact ⟨x.sub, gro x.gro, fun b o e => (x.fre b o e).elim (x0.fre b o) .inr, x.kee, x.len, x.sl, x.inj, x.prs, x.lks⟩
  | some j =>
    obtain ⟨e1, ea⟩ := x.lks (j, A j, .lst items, H1 (A j).1) List.mem_cons_self
    have e1 : δ2[j]? = some (some (.lck (.lst items))) := e1
    have eu : unlockD (some j) δ2 = δ2.set j (some (.own (.lst items))) := by simp only [unlockD, e1]
    rw [eu]
    have hl : j < δ2.length := by
      by_cases h : j < δ2.length
      · exact h
      · rw [List.getElem?_eq_none (by omega)] at e1
        cases e1
    have hjl : ∀ q ∈ M.lk, q.1 ≠ j := fun q hq z => by
      obtain ⟨e, _⟩ := x0.lks q hq
      simp only [lockD] at hk
      rw [z] at e
      rw [e] at hk
      cases hk
    have mo : ∀ i, mutAt (δ2.set j (some (.own (.lst items)))) i → mutAt δ2 i := fun i h => by
      rcases mutAt_set h with ⟨_, h⟩ | ⟨rfl, _⟩
      · exact h
      · exact ⟨_, e1, rfl⟩
    refine ⟨x.sub, gro x.gro, fun b o e => (x.fre b o e).elim (x0.fre b o) .inr, x.kee, by simp [x.len], fun i s e => ?_, fun a b c h1 h2 => x.inj a b c (mo _ h1) (mo _ h2), fun q hq => ?_, fun q hq => ?_⟩
    · by_cases hi : i = j
      · subst hi
        rw [List.getElem?_set_self hl] at e
        cases e
        obtain ⟨h1, h2, h3, _⟩ := x.sl i _ e1
        exact ⟨h1, h2, h3⟩
      · rw [List.getElem?_set_ne (Ne.symm hi)] at e
        have z := x.sl i s e
        cases s with
        | imm d => exact z
        | own d => exact z
        | par d => exact z
        | lck d =>
          refine ⟨z.1, z.2.1, z.2.2.1, ?_⟩
          rcases List.mem_cons.mp z.2.2.2 with w | w
          · have : i = j := congrArg Prod.fst w
            exact absurd this hi
          · exact w
    · obtain ⟨⟨d', e⟩, ea⟩ := x.prs q hq
      refine ⟨⟨d', ?_⟩, ea⟩
      rw [List.getElem?_set_ne fun z => by
        rw [z] at e1
        rw [e1] at e
        cases e]
      exact e
    · obtain ⟨e, ea⟩ := x.lks q (List.mem_cons_of_mem _ hq)
      refine ⟨?_, ea⟩
      rw [List.getElem?_set_ne (Ne.symm (hjl q hq))]
      exact e
theorem XOk.unlock (x0 : Ok T M A I1 σ H1 δ) {y : XD} {cls : Value} {dx : Option Addr} (h : XOk T (lockM M I1 H1 A items src) y cls dx H') : XOk T M y cls dx H' := by
  obtain ⟨I', h1, h2, h3, h4, h5⟩ := h
  have e1 : (lockM M I1 H1 A items src).I0 = I1 := by cases src <;> rfl
  have e2 : (lockM M I1 H1 A items src).H0 = M.H0 := by cases src <;> rfl
  have e3 : (lockM M I1 H1 A items src).ex = M.ex := by cases src <;> rfl
  rw [e1] at h1 h2
  rw [e2] at h2 h4
  rw [e3] at h4
  exact ⟨I', x0.gro.trans h1, fun b o e => (h2 b o e).elim (x0.fre b o) .inr, h3, h4, h5⟩
theorem Wants.lock {α : Type} {m : Out α} {k : α → Prop} (x0 : Ok T M A I1 σ H1 δ) (w : Wants T M E m k) : Wants T (lockM M I1 H1 A items src) E m k := by
  cases m with
  | ok a => exact w
  | exc x => exact fun cls dx H' h => w cls dx H' (XOk.unlock x0 h)
  | stuck => exact w
theorem RetOk.unlock {A' : Pl} {δ2 δ3 : Dl} {s : S} {v : V} (h : RetOk T (lockM M I1 H1 A items src) A' I' H' δ2 v s) : RetOk T M A' I' H' δ3 v s := by
  have e2 : (lockM M I1 H1 A items src).H0 = M.H0 := by cases src <;> rfl
  have e3 : (lockM M I1 H1 A items src).ex = M.ex := by cases src <;> rfl
  cases s with
  | imm d => exact h
  | own d =>
    unfold RetOk at h ⊢
    rw [e2, e3] at h
    exact h
  | _ => exact h
/-- the walked thing is as it was -/
theorem Ok.walked {A' : Pl} {σ' : L2.St} {δ2 : Dl} (x0 : Ok T M A I1 σ H1 δ) (hs : srcOk items src δ) (hk : lockD src δ = .ok δ') (x : Ok T (lockM M I1 H1 A items src) A' I' σ' H' δ2) : SrcG T A I1 H1 items src I' H' := by
  cases src with
  | none => exact x.gro
  | some j =>
    obtain ⟨e1, ea⟩ := x.lks (j, A j, .lst items, H1 (A j).1) List.mem_cons_self
    have ea : A' j = A j := ea
    have e1 : δ2[j]? = some (some (.lck (.lst items))) := e1
    obtain ⟨_, _, _, h4⟩ := x.sl _ _ e1
    refine ⟨x.gro, ?_⟩
    rcases List.mem_cons.mp h4 with w | w
    · have := congrArg (fun z => z.2.2.2) w
      simpa [ea] using this
    · obtain ⟨e, _⟩ := x0.lks _ w
      have e : δ[j]? = some (some (.lck (.lst items))) := e
      simp only [lockD, e] at hk
      cases hk
end

theorem Ok.walkedI {T : Ctx} {M : Amb} {A A' : Pl} {I1 H1 I' H' : Hp} {items : List D} {src : Src} {σ' : L2.St} {δ2 : Dl} (x : Ok T (lockM M I1 H1 A items src) A' I' σ' H' δ2) : Same I1 I' := by
  cases src with
  | none => exact x.gro
  | some j => exact x.gro
/-! ### for -/
def forL (t : Tg) (body : FS) : List D → Dl → Out (Fl × Dl)
  | [], δ => .ok (.nx, δ)
  | d :: ds, δ => do
    let δ1 ← setTg t d δ
    let (l, δ2) ← body δ1
    match l with
    | .nx => forL t body ds δ2
    | .ct => forL t body ds δ2
    | .bk => .ok (.nx, δ2)
    | .rt s => .ok (.rt s, δ2)
def forF (gi : FI) (t : Tg) (body : FS) : FS := fun δ => do
  let (is, δ1) ← gi δ
  let δ2 ← lockD is.2 δ1
  let (l, δ3) ← forL t body is.1 δ2
  pure (l, unlockD is.2 δ3)
theorem lockD_exc {src : Src} {δ : Dl} {x : XD} (h : lockD src δ = .exc x) : False := by
  unfold lockD at h
  split at h
  · cases h
  · split at h <;> cases h
section
variable {T : Ctx} {X : Cx} {E : XK} {tg iter : Expr} {body : List Stmt} {gi : FI} {t : Tg} {fb : FS} {pos : Pos}
theorem setTg_exc : ∀ {t : Tg} {d : D} {δ : Dl} {x : XD}, setTg t d δ = .exc x → False := by
  intro t
  suffices h : (∀ d δ x, setTg t d δ = .exc x → False) from fun {d δ x} => h d δ x
  refine Tg.rec (motive_1 := fun t => ∀ d δ x, setTg t d δ = .exc x → False) (motive_2 := fun ts => ∀ ds δ x, setTgs ts ds δ = .exc x → False) ?_ ?_ ?_ ?_ t
  · intro i d δ x h
    simp only [setTg, putS] at h
    split at h <;> cases h
  · intro ts ih d δ x h
    cases d with
    | tup ds =>
      rw [setTg] at h
      exact ih _ _ _ h
    | _ => rw [setTg] at h <;> first | cases h | (intros; intro h; cases h)
  · intro ds δ x h
    cases ds with
    | nil => rw [setTgs] at h; cases h
    | cons d ds => rw [setTgs] at h <;> first | cases h | (intros; intro h; cases h)
  · intro t ts ih1 ih2 ds δ x h
    cases ds with
    | nil => rw [setTgs] at h <;> first | cases h | (intros; intro h; cases h)
    | cons d ds =>
      rw [setTgs] at h
      rcases bind_excE h with h | ⟨δ1, _, h⟩
      · exact ih1 _ _ _ h
      · exact ih2 _ _ _ h
theorem ds_for (hi : DI T X E tg iter gi) (hg : DG T X tg t) (hb : DSs T X E body fb) (hp : PassesOwn (model X.prog X.w) X.A X.env X.xe) (hc : X.calm = true := by rfl) (hs : ∀ x, foldedSetIterable iter X.env x = pure x := by intro _; rfl) :
    DS T X E (.For tg iter body [] pos) (forF gi t fb) := PS.of (ps_for hp hc hi hg hb hs) fun D σ H ⟨M, A, I, δ, ok, w⟩ => by
  refine ⟨M, A, I, δ, ok, w.bind.imp fun (is, δ1) e1 w1 J I1 H1 ok1 st1 so wk => ?_⟩
  obtain ⟨items, src⟩ := is
  replace w1 : Wants T M E (lockD src δ1 >>= fun δ2 => forL t fb items δ2 >>= fun z => pure (z.1, unlockD src z.2)) _ := w1
  cases q : lockD src δ1 with
  | stuck => rw [q] at w1; exact w1.elim
  | exc x => exact (lockD_exc q).elim
  | ok δ2 =>
    rw [q, ok_bind] at w1
    have okl := (ok1.lock so q).1
    -- the word between the turns
    refine ⟨fun i m σ' H' => m = items.length - i ∧ i ≤ items.length ∧ ∃ A' I' δ', Ok T (lockM M I1 H1 A items src) A' I' σ' H' δ' ∧
        Wants T M E (forL t fb (items.drop i) δ' >>= fun z => pure (z.1, unlockD src z.2)) (fun (l, δ') => match l with
          | .nx => ∀ A' I' σ' H', Ok T M A' I' σ' H' δ' → D.nx σ' H'
          | .bk => ∀ A' I' σ' H', Ok T M A' I' σ' H' δ' → D.bk σ' H'
          | .ct => ∀ A' I' σ' H', Ok T M A' I' σ' H' δ' → D.ct σ' H'
          | .rt s => ∀ A' I' σ' H' v, Ok T M A' I' σ' H' δ' → RetOk T M A' I' H' δ' v s → D.rt v H'), ⟨_, rfl, Nat.zero_le _, A, I1, δ2, okl, w1⟩, ?_⟩
    rintro i m σ' H' ⟨rfl, hi, A', I', δ', ok', w'⟩
    by_cases hlt : i < items.length
    · have hd : items[i]? = some items[i] := List.getElem?_eq_getElem hlt
      rw [List.drop_eq_getElem_cons hlt, forL] at w'
      refine .inr ⟨wk.goes i I' H' hlt ok'.sub (ok1.walked so q ok'), fun σ3 H3 => ∃ A3 I3 δ3, Ok T (lockM M I1 H1 A items src) A3 I3 σ3 H3 δ3 ∧ Wants T M E (forL t fb (items.drop (i + 1)) δ3 >>= fun z => pure (z.1, unlockD src z.2)) _, fun σ3 H3 ⟨A3, I3, δ3, ok3, w3⟩ => ⟨items.length - (i + 1), by omega, rfl, by omega, A3, I3, δ3, ok3, w3⟩, fun x H2 hy => ?_⟩
      obtain ⟨I2, nw, rx⟩ := wk.yields i I' H' x H2 _ hd ok'.sub (ok1.walked so q ok') hy
      have ok2 := ok'.new nw
      cases q1 : setTg t items[i] δ' with
      | stuck => rw [q1] at w'; exact w'.elim
      | exc x => exact (setTg_exc q1).elim
      | ok δ4 =>
        rw [q1, ok_bind] at w'
        refine ⟨_, A', I2, δ', items[i], δ4, ok2, rx, q1, fun σ4 ok4 _ _ _ => ?_⟩
        refine ⟨_, A', I2, δ4, ok4, Wants.imp (Wants.lock (items := items) (src := src) ok1 w'.bind.bind) fun (l, δ5) e5 w5 => ?_⟩
        have w6 : Wants T M E (match l with
          | .nx => forL t fb (items.drop (i + 1)) δ5
          | .ct => forL t fb (items.drop (i + 1)) δ5
          | .bk => .ok (.nx, δ5)
          | .rt s => .ok (.rt s, δ5)) _ := w5
        cases l with
        | nx =>
          refine fun A5 I5 σ5 H5 ok5 => ⟨A5, I5, δ5, ok5, ?_⟩
          cases q6 : forL t fb (items.drop (i + 1)) δ5 with
          | stuck => simp only [q6] at w6; exact w6.elim
          | exc y => simp only [q6] at w6; exact w6
          | ok z => simp only [q6] at w6; exact w6
        | ct =>
          refine fun A5 I5 σ5 H5 ok5 => ⟨A5, I5, δ5, ok5, ?_⟩
          cases q6 : forL t fb (items.drop (i + 1)) δ5 with
          | stuck => simp only [q6] at w6; exact w6.elim
          | exc y => simp only [q6] at w6; exact w6
          | ok z => simp only [q6] at w6; exact w6
        | bk => exact fun A5 I5 σ5 H5 ok5 => w6 A5 I5 σ5 H5 (ok1.unlock so q ok5)
        | rt s => exact fun A5 I5 σ5 H5 v ok5 r5 => w6 A5 I5 σ5 H5 v (ok1.unlock so q ok5) r5.unlock
    · have hi' : i = items.length := by omega
      subst hi'
      rw [List.drop_length, forL] at w'
      exact .inl ⟨wk.stops I' H' ok'.sub (ok1.walked so q ok'), w' A' I' σ' H' (ok1.unlock so q ok')⟩
end
end DE
set_option Elab.async false
set_option linter.all false
set_option maxRecDepth 100000
set_option maxHeartbeats 2000000
namespace DE
open PySem PySem.Spec PyProof.Rows L2

/-! ### list comprehensions -/
/-- what raises here goes nowhere -/
def noX {α : Type} : Out α → Out α
  | .exc _ => .stuck
  | m => m
@[simp] theorem noX_ok {α : Type} (a : α) : noX (.ok a) = .ok a := rfl
@[simp] theorem noX_stuck {α : Type} : noX (.stuck : Out α) = .stuck := rfl
def wipeD : List Nat → Dl → Out Dl
  | [], δ => .ok δ
  | i :: is, δ => do
    let δ1 ← wipeD is δ
    if freeAt δ1 i then .ok (δ1.set i none) else .stuck
def backD (δ0 : Dl) : List Nat → Dl → Dl
  | [], δ => δ
  | i :: is, δ => match δ0[i]? with
    | some (some (.imm d)) => (backD δ0 is δ).set i (some (.imm d))
    | _ => backD δ0 is δ
theorem wipeD_exc : ∀ {is : List Nat} {δ : Dl} {x : XD}, wipeD is δ = .exc x → False
  | [], _, _, h => by cases h
  | i :: is, δ, x, h => by
    rcases bind_excE (m := wipeD is δ) h with h | ⟨a, _, h⟩
    · exact wipeD_exc h
    · split at h <;> cases h
abbrev E0' : XK := fun _ _ _ => False
theorem Wants.noX {α β : Type} {T : Ctx} {M : Amb} {E : XK} {m : Out α} {f : α → Out β} {k : β → Prop} (w : Wants T M E (noX m >>= f) k) : Wants T M E0' m fun a => Wants T M E (f a) k := by
  cases m with
  | ok a => exact w
  | exc x => exact w.elim
  | stuck => exact w.elim
def compL (t : Tg) (c : FT) (f : FE) (vs : List Nat) : List D → Dl → Out (List D × Dl)
  | [], δ => .ok ([], δ)
  | d :: ds, δ => do
    let δ1 ← setTg t d δ
    let (k, δ2) ← noX (c δ1)
    if k then do
      let (r, δ3) ← noX (f δ2)
      let (e, δ4) ← takeR r δ3
      let δ5 ← wipeD vs δ4
      let (es, δ6) ← compL t c f vs ds δ5
      pure (e :: es, δ6)
    else do
      let δ5 ← wipeD vs δ2
      compL t c f vs ds δ5
def compF (gi : FI) (t : Tg) (c : FT) (f : FE) (vs : List Nat) : FN := fun δ => do
  let (is, δ1) ← gi δ
  if lim is.1.length then do
    let δ2 ← lockD is.2 δ1
    let δ3 ← wipeD vs δ2
    let (ds, δ4) ← compL t c f vs is.1 δ3
    pure (.lst ds, backD δ1 vs (unlockD is.2 δ4))
  else .stuck
def yesT : FT := fun δ => .ok (true, δ)
section
variable {T : Ctx} {M : Amb} {A : Pl} {I H I' H' I1 H1 : Hp} {σ : L2.St} {δ δ' : Dl} {E : XK} {j : Nat} {items : List D} {src : Src}
theorem Ok.resl {σ' : L2.St} (x : Ok T M A I σ H δ) (hl : σ'.length = σ.length) (h : ∀ (i : Nat) s, δ[i]? = some (some s) → σ'[i]? = σ[i]?) : Ok T M A I σ' H δ where
  sub := x.sub
  gro := x.gro
  fre := x.fre
  kee := x.kee
  len := hl.trans x.len
  sl := fun i s e => by rw [h i s e]; exact x.sl i s e
  inj := x.inj
  prs := x.prs
  lks := x.lks
theorem wipeD_in : ∀ {is : List Nat} {δ δ' : Dl}, wipeD is δ = .ok δ' → (∀ (i : Nat), i ∈ is → ∀ s, δ'[i]? ≠ some (some s)) ∧ (∀ i, mutAt δ' i → mutAt δ i)
  | [], δ, δ', h => by
    cases h
    exact ⟨fun i hi => (by cases hi), fun _ h => h⟩
  | i :: is, δ, δ', h => by
    obtain ⟨δ1, e1, h⟩ := bind_okE (m := wipeD is δ) h
    obtain ⟨h1, h2⟩ := wipeD_in e1
    split at h
    · rename_i hf
      cases h
      refine ⟨fun j hj s e => ?_, fun j hj => h2 j ?_⟩
      · by_cases z : j = i
        · subst z
          rw [List.getElem?_set_self (freeAt_lt hf)] at e
          cases e
        · rw [List.getElem?_set_ne (Ne.symm z)] at e
          rcases List.mem_cons.mp hj with w | w
          · exact z w
          · exact h1 j w s e
      · rcases mutAt_set hj with ⟨_, h⟩ | ⟨_, z, e, m⟩
        · exact h
        · cases e
    · cases h
theorem wipe_len (σ : L2.St) (vs : List Nat) : (wipe σ vs).length = σ.length := wipe_length σ vs
theorem wipe_at {σ : L2.St} {vs : List Nat} {i : Nat} (h : i ∉ vs) : (wipe σ vs)[i]? = σ[i]? := by
  induction vs with
  | nil => rfl
  | cons v vs ih =>
    simp only [List.mem_cons, not_or] at h
    show ((wipe σ vs).set v none)[i]? = _
    rw [List.getElem?_set_ne (Ne.symm h.1)]
    exact ih h.2
theorem wipe_in {σ : L2.St} {vs : List Nat} {i : Nat} (h : i ∈ vs) (hl : i < σ.length) : (wipe σ vs)[i]? = some none := by
  induction vs with
  | nil => cases h
  | cons v vs ih =>
    show ((wipe σ vs).set v none)[i]? = _
    by_cases z : i = v
    · subst z
      rw [List.getElem?_set_self (by rw [wipe_len]; exact hl)]
    · rw [List.getElem?_set_ne (Ne.symm z)]
      rcases List.mem_cons.mp h with w | w
      · exact absurd w z
      · exact ih w
theorem wipe_ext {σ σ' : L2.St} {vs : List Nat} (hl : σ'.length = σ.length) (h : ∀ i, i ∉ vs → σ'[i]? = σ[i]?) : wipe σ' vs = wipe σ vs := by
  apply List.ext_getElem?
  intro i
  by_cases hi : i ∈ vs
  · by_cases z : i < σ.length
    · rw [wipe_in hi z, wipe_in hi (by omega)]
    · rw [List.getElem?_eq_none (by rw [wipe_len]; omega), List.getElem?_eq_none (by rw [wipe_len]; omega)]
  · rw [wipe_at hi, wipe_at hi, h i hi]
theorem Ok.wipe {vs : List Nat} (x : Ok T M A I σ H δ) (e : wipeD vs δ = .ok δ') : Ok T M A I (L2.wipe σ vs) H δ' := by
  induction vs generalizing δ' with
  | nil =>
    cases e
    exact x
  | cons v vs ih =>
    obtain ⟨δ1, e1, e⟩ := bind_okE (m := wipeD vs δ) e
    split at e
    · rename_i hf
      cases e
      exact (ih e1).drop hf none
    · cases e
/-- the block's names are put back -/
theorem Ok.back {vs : List Nat} (x0 : Ok T M A I1 σ H δ) (hI : Same I1 I') {δ2 : Dl} (x : Ok T M A I' σ H' δ2) (hn : ∀ (i : Nat), i ∈ vs → ∀ s, δ2[i]? ≠ some (some s)) : Ok T M A I' σ H' (backD δ vs δ2) ∧ ∀ i, mutAt (backD δ vs δ2) i → mutAt δ2 i := by
  induction vs with
  | nil => exact ⟨x, fun _ h => h⟩
  | cons v vs ih =>
    obtain ⟨y, hm⟩ := ih fun i hi => hn i (List.mem_cons_of_mem _ hi)
    rw [backD]
    split
    · rename_i d hd
      obtain ⟨u, h1, h2⟩ := x0.sl v _ hd
      have hv : ∀ s, s.mut = true → (backD δ vs δ2)[v]? ≠ some (some s) := fun s ms e => by
        obtain ⟨s', e', _⟩ := hm v ⟨s, e, ms⟩
        exact hn v List.mem_cons_self s' e'
      have hf : freeAt (backD δ vs δ2) v = true := by
        unfold freeAt
        split
        · rename_i d' e; exact absurd e (hv _ rfl)
        · rename_i d' e; exact absurd e (hv _ rfl)
        · rfl
        · rename_i e
          have hl : v < δ.length := by
            by_cases h : v < δ.length
            · exact h
            · rw [List.getElem?_eq_none (by omega)] at hd
              cases hd
          have := y.len
          have := x0.len
          rw [List.getElem?_eq_none_iff] at e
          omega
      have z := y.set (i := v) hf (h2.mono hI)
      refine ⟨Ok.resl z (by simp) fun i s e => ?_, fun i h => ?_⟩
      · by_cases w : i = v
        · subst w
          rw [List.getElem?_set_self (by rw [y.len]; exact freeAt_lt hf), h1]
        · rw [List.getElem?_set_ne (Ne.symm w)]
      · rcases mutAt_set h with ⟨_, h⟩ | ⟨_, w, e, m⟩
        · exact hm i h
        · cases e; cases m
    · exact ⟨y, hm⟩
/-- an object that stands apart is changed -/
theorem Ok.tmp {Da : Addr} {o : HO} (x : Ok T M A I σ H δ) (ap : Apart M A δ I (Da, Da)) : Ok T M A I σ (L2.upd H Da o) δ where
  sub := fun b u e => by
    rw [upd_ne fun z => by rw [z, ap.i Da (.inl rfl)] at e; cases e]
    exact x.sub _ _ e
  gro := x.gro
  fre := x.fre
  kee := fun b u e hn => by
    rw [upd_ne fun z => by rw [z, ap.h Da (.inl rfl)] at e; cases e]
    exact x.kee b u e hn
  len := x.len
  sl := fun i s e => by
    have z := x.sl i s e
    have kp : mutAt δ i → ∀ b u, (b = (A i).1 ∨ b = (A i).2) → H b = some u → L2.upd H Da o b = some u := fun hm b u f h => by
      rw [upd_ne fun w => ap.s Da (.inl rfl) i hm (by rw [← w]; exact f)]
      exact h
    cases s with
    | imm d => exact z
    | own d => exact ⟨z.1, z.2.1.new (.refl _) (kp ⟨_, e, rfl⟩), z.2.2⟩
    | par d => exact ⟨z.1, z.2.1.new (.refl _) (kp ⟨_, e, rfl⟩), z.2.2⟩
    | lck d => exact ⟨z.1, z.2.1.new (.refl _) (kp ⟨_, e, rfl⟩), z.2.2.1, by rw [z.2.1.root fun u q => kp ⟨_, e, rfl⟩ _ u (.inl rfl) q]; exact z.2.2.2⟩
  inj := x.inj
  prs := x.prs
  lks := x.lks
theorem Stp.tmp {Da : Addr} {o : HO} (st : Stp A δ I H δ' I' H') (hD : H Da = none) : Stp A δ I H δ' I' (L2.upd H' Da o) :=
  ⟨st.gro, st.fre, fun b u e hn => by rw [upd_ne (ne_of_none e hD)]; exact st.kee b u e hn, st.mon, fun b u e => by rw [upd_ne (ne_of_none e hD)]; exact st.dom b u e⟩
/-- it still stands apart behind a step -/
theorem Apart.step {Da : Addr} {u : HO} (ap : Apart M A δ I (Da, Da)) (hD : H Da = some u) (st : Stp A δ I H δ' I' H') : Apart M A δ' I' (Da, Da) ∧ H' Da = some u := by
  have hs : ∀ i, mutAt δ i → ¬ fpt A i Da := fun i hi => ap.s Da (.inl rfl) i hi
  have e : ∀ b, b = Da ∨ b = Da → b = Da := fun b z => z.elim id id
  refine ⟨⟨fun b z => ?_, fun b z => ap.h b z, fun b z i hi => by rw [e b z]; exact hs i (st.mon i hi), fun b z => ap.x b z⟩, st.kee Da u hD hs⟩
  rw [e b z]
  cases q : I' Da with
  | none => rfl
  | some o =>
    rcases st.fre Da o q with w | w | ⟨i, hi, f⟩
    · have := ap.i Da (.inl rfl)
      rw [this] at w
      cases w
    · rw [hD] at w
      cases w
    · exact (hs i hi f).elim
theorem Apart.lockM (ap : Apart M A δ I (p : Addr × Addr)) (hm : ∀ i, mutAt δ' i → mutAt δ i) : Apart (DE.lockM M I1 H1 A items src) A δ' I p := by
  have e2 : (DE.lockM M I1 H1 A items src).H0 = M.H0 := by cases src <;> rfl
  have e3 : (DE.lockM M I1 H1 A items src).ex = M.ex := by cases src <;> rfl
  exact ⟨ap.i, fun b z => by rw [e2]; exact ap.h b z, fun b z i hi => ap.s b z i (hm i hi), fun b z => by rw [e3]; exact ap.x b z⟩
end
section
variable {T : Ctx} {E : XK} {gi : FI} {t : Tg} {c : FT} {f : FE} {vs : List Nat}
/-- a clause's tests -/
abbrev DTs (T : Ctx) (X : Cx) (E : XK) (es : List Expr) (f : FT) : Prop := PTs X es (tT T E f)
theorem PTs.of {X : Cx} {e : List Expr} {t t' : TT} (h : PTs X e t) (w : ∀ σ H Q, t' σ H Q → t σ H Q) : PTs X e t' := ⟨fun pins s σ H Q I q => h.run pins s σ H Q I (w _ _ _ q)⟩
theorem dts_nil {X : Cx} : DTs T X E [] yesT := PTs.of pts_nil fun σ H Q ⟨M, A, I, δ, ok, w⟩ => w I H ok .refl
theorem dts_one {X : Cx} {e : Expr} {f : FT} (h : DT T X E e f) : DTs T X E [e] f := pts_one h
def postN (T : Ctx) (M : Amb) (A : Pl) (δ : Dl) (I H : Hp) (σ : L2.St) (Q : VK) : D × Dl → Prop := fun z => ∀ p I' H', Ok T M A I' σ H' z.2 → Stp A δ I H z.2 I' H' → OwnRep T I' H' z.1 p → Apart M A z.2 I' p → H p.1 = none → H p.2 = none → Q (.ref p.1) H'
/-- a step that may change what stands at Da -/
structure StpD (Da : Addr) (A : Pl) (δ : Dl) (I H : Hp) (δ' : Dl) (I' H' : Hp) : Prop where
  gro : Same I I'
  fre : ∀ b o, I' b = some o → I b = some o ∨ H b = none ∨ ∃ i, mutAt δ i ∧ fpt A i b
  kee : ∀ b o, b ≠ Da → H b = some o → (∀ i, mutAt δ i → ¬ fpt A i b) → H' b = some o
  mon : ∀ i, mutAt δ' i → mutAt δ i
  dom : ∀ b o, H b = some o → ∃ o', H' b = some o'
section
variable {A : Pl} {δ δ1 δ2 : Dl} {I H I1 H1 I2 H2 : Hp} {Da : Addr} {o : HO}
theorem Stp.d (a : Stp A δ I H δ1 I1 H1) : StpD Da A δ I H δ1 I1 H1 := ⟨a.gro, a.fre, fun b o _ h n => a.kee b o h n, a.mon, a.dom⟩
theorem StpD.stp (a : StpD Da A δ I H δ1 I1 H1) (h : H Da = none) : Stp A δ I H δ1 I1 H1 := ⟨a.gro, a.fre, fun b o e n => a.kee b o (fun z => by rw [z, h] at e; cases e) e n, a.mon, a.dom⟩
theorem StpD.trans (a : StpD Da A δ I H δ1 I1 H1) (b : StpD Da A δ1 I1 H1 δ2 I2 H2) : StpD Da A δ I H δ2 I2 H2 where
  gro := a.gro.trans b.gro
  fre := fun c o h => by
    rcases b.fre c o h with h | h | ⟨i, h, f⟩
    · exact a.fre c o h
    · refine .inr (.inl ?_)
      cases q : H c with
      | none => rfl
      | some u =>
        obtain ⟨u', q'⟩ := a.dom c u q
        rw [h] at q'
        cases q'
    · exact .inr (.inr ⟨i, a.mon i h, f⟩)
  kee := fun c o n h m => b.kee c o n (a.kee c o n h m) fun i hi => m i (a.mon i hi)
  mon := fun i h => a.mon i (b.mon i h)
  dom := fun c o h => by
    obtain ⟨o1, h1⟩ := a.dom c o h
    exact b.dom c o1 h1
theorem StpD.tmp (a : StpD Da A δ I H δ1 I1 H1) : StpD Da A δ I H δ1 I1 (L2.upd H1 Da o) :=
  ⟨a.gro, a.fre, fun b u n e m => by rw [upd_ne n]; exact a.kee b u n e m, a.mon, fun b u e => by
    by_cases z : b = Da
    · subst z
      exact ⟨_, upd_same⟩
    · rw [upd_ne z]
      exact a.dom b u e⟩
theorem StpD.mono (a : StpD Da A δ I H δ1 I1 H1) (h : ∀ i, mutAt δ2 i → mutAt δ1 i) : StpD Da A δ I H δ2 I1 H1 := ⟨a.gro, a.fre, a.kee, fun i hi => a.mon i (h i hi), a.dom⟩
theorem StpD.refl : StpD Da A δ I H δ I H := Stp.refl.d
end
theorem SrcG.conv {T : Ctx} {A : Pl} {I1 H1 Hs I H : Hp} {items : List D} {src : Src} (h : SrcG T A I1 H1 items src I H) (hsrc : ∀ j, src = some j → Hs (A j).1 = H1 (A j).1) : SrcG T A I1 Hs items src I H := by
  cases src with
  | none => exact h
  | some j => exact ⟨h.1, h.2.trans (hsrc j rfl).symm⟩
/-- the turns of a comprehension: the new list at Da holds acc0 to begin with -/
theorem loop_core {M : Amb} {A : Pl} {I1 H1 Hs : Hp} {σ : L2.St} {δ1 δ2 δ3 : Dl} {items acc0 : List D} {xs0 : List V} {src : Src} {J : It} {Da : Addr} {K : List D × Dl → Prop} {Fin : Hp → Prop} (hv : ∀ i ∈ t.ix, i ∈ vs)
    (wk : WalkD T J items (SrcG T A I1 Hs items src)) (hsrc : ∀ j, src = some j → Hs (A j).1 = H1 (A j).1) (ok1 : Ok T M A I1 σ H1 δ1) (so : srcOk items src δ1) (q : lockD src δ1 = .ok δ2) (q2 : wipeD vs δ2 = .ok δ3) (apD : Apart M A δ1 I1 (Da, Da)) (hD0 : H1 Da = some (.lst xs0)) (r0 : Reps T I1 acc0 xs0)
    (hlim : lim (acc0.length + items.length)) (w : Wants T M E (compL t c f vs items δ3) K)
    (fin : ∀ es δ' I' H' xs, K (es, δ') → Ok T M A I' σ H' (unlockD src δ') → Apart M A (unlockD src δ') I' (Da, Da) → H' Da = some (.lst xs) → Reps T I' (acc0 ++ es) xs → es.length ≤ items.length → (∀ (i : Nat), i ∈ vs → ∀ s, (unlockD src δ')[i]? ≠ some (some s)) → StpD Da A δ1 I1 H1 (unlockD src δ') I' H' → Fin H') :
    ∃ W : Nat → Nat → Hp → Prop, (∃ m, W 0 m H1) ∧ ∀ i m H, W i m H →
      (J.stop i H ∧ Fin H) ∨ (J.go i H ∧ ∃ Nx : Hp → Prop, (∀ H', Nx H' → ∃ m', m' < m ∧ W (i + 1) m' H') ∧ ∀ x H', J.yld i H x H' → tG T t x (wipe σ vs) H' fun σ2 H2 => wipe σ2 vs = wipe σ vs ∧ tT T E0' c σ2 H2 fun b H3 =>
        if b = true then tE T E0' f σ2 H3 fun y H4 => ∃ acc, H4 Da = some (.lst acc) ∧ acc.length < sizeLine ∧ Nx (upd H4 Da (.lst (acc ++ [y]))) else Nx H3) := by
  obtain ⟨okl, ml⟩ := ok1.lock so q
  have okw := okl.wipe q2
  have mw := (wipeD_in q2).2
  have m31 : ∀ i, mutAt δ3 i → mutAt δ1 i := fun i hi => (ml i).mp (mw i hi)
  have apL : Apart (DE.lockM M I1 H1 A items src) A δ3 I1 (Da, Da) := apD.lockM m31
  refine ⟨fun i m H' => m = items.length - i ∧ i ≤ items.length ∧ ∃ I' δ' es xs, Ok T (DE.lockM M I1 H1 A items src) A I' (wipe σ vs) H' δ' ∧ Apart (DE.lockM M I1 H1 A items src) A δ' I' (Da, Da) ∧ H' Da = some (.lst xs) ∧ Reps T I' (acc0 ++ es) xs ∧ es.length ≤ i ∧
      (∀ (v : Nat), v ∈ vs → ∀ s, δ'[v]? ≠ some (some s)) ∧ StpD Da A δ1 I1 H1 δ' I' H' ∧ Wants T M E (compL t c f vs (items.drop i) δ') (fun z => K (es ++ z.1, z.2)),
    ⟨_, rfl, Nat.zero_le _, I1, δ3, [], xs0, okw, apL, hD0, by simpa using r0, Nat.le_refl _, (wipeD_in q2).1, StpD.refl.mono m31, w.imp fun z _ h => h⟩, ?_⟩
  rintro i m H' ⟨rfl, hi, I', δ', es, xs, ok', ap', hD', ra, la, hno, stp', w'⟩
  by_cases hlt : i < items.length
  · have hd : items[i]? = some items[i] := List.getElem?_eq_getElem hlt
    rw [List.drop_eq_getElem_cons hlt, compL] at w'
    refine .inr ⟨wk.goes i I' H' hlt ok'.sub ((ok1.walked so q ok').conv hsrc), fun H3 => ∃ I' δ' es xs, Ok T (DE.lockM M I1 H1 A items src) A I' (wipe σ vs) H3 δ' ∧ Apart (DE.lockM M I1 H1 A items src) A δ' I' (Da, Da) ∧ H3 Da = some (.lst xs) ∧ Reps T I' (acc0 ++ es) xs ∧ es.length ≤ i + 1 ∧
      (∀ (v : Nat), v ∈ vs → ∀ s, δ'[v]? ≠ some (some s)) ∧ StpD Da A δ1 I1 H1 δ' I' H3 ∧ Wants T M E (compL t c f vs (items.drop (i + 1)) δ') (fun z => K (es ++ z.1, z.2)), fun H3 h3 => ⟨items.length - (i + 1), by omega, rfl, by omega, h3⟩, fun x H2 hy => ?_⟩
    obtain ⟨I2, nw, rx⟩ := wk.yields i I' H' x H2 _ hd ok'.sub ((ok1.walked so q ok').conv hsrc) hy
    have ok2 := ok'.new nw
    obtain ⟨ap2, hD2⟩ := ap'.step hD' (nw.stp (δ := δ'))
    have ra2 := ra.mono nw.gro
    cases q1 : setTg t items[i] δ' with
    | stuck => rw [q1] at w'; exact w'.elim
    | exc x => exact (setTg_exc q1).elim
    | ok δ4 =>
      rw [q1, ok_bind] at w'
      refine ⟨_, A, I2, δ', items[i], δ4, ok2, rx, q1, fun σ4 ok4 l4 k4 m4 => ?_⟩
      have hw4 : wipe σ4 vs = wipe σ vs := by
        have h1 : wipe σ4 vs = wipe (wipe σ vs) vs := wipe_ext l4 fun i hi => k4 i fun z => hi (hv i z)
        rw [h1]
        exact wipe_ext (wipe_len _ _) fun i hi => wipe_at hi
      refine ⟨hw4, ?_⟩
      have ap4 : Apart (DE.lockM M I1 H1 A items src) A δ4 I2 (Da, Da) := ⟨ap2.i, ap2.h, fun b z i hi => ap2.s b z i (m4 i hi), ap2.x⟩
      have st4 : StpD Da A δ1 I1 H1 δ4 I2 H2 := (stp'.trans nw.stp.d).mono m4
      refine ⟨_, A, I2, δ4, ok4, Wants.imp (Wants.lock (items := items) (src := src) ok1 (Wants.noX w')) fun kd e5 w5 => ?_⟩
      obtain ⟨k, δ5⟩ := kd
      intro I5 H5 ok5 st5
      obtain ⟨ap5, hD5⟩ := ap4.step hD2 st5
      have ra5 := ra2.mono st5.gro
      have stA := st4.trans (st5.d (Da := Da))
      cases k with
      | false =>
        refine iteF ?_
        replace w5 : Wants T M E (wipeD vs δ5 >>= fun δ6 => compL t c f vs (items.drop (i + 1)) δ6) (fun z => K (es ++ z.1, z.2)) := w5
        cases q7 : wipeD vs δ5 with
        | stuck => rw [q7] at w5; exact w5.elim
        | exc y => exact (wipeD_exc q7).elim
        | ok δ6 =>
          rw [q7, ok_bind] at w5
          have ok6 := ok5.wipe q7
          rw [hw4] at ok6
          have m6 := (wipeD_in q7).2
          exact ⟨I5, δ6, es, xs, ok6, ⟨ap5.i, ap5.h, fun b z i hi => ap5.s b z i (m6 i hi), ap5.x⟩, hD5, ra5, by omega, (wipeD_in q7).1, stA.mono m6, w5⟩
      | true =>
        refine iteT ?_
        replace w5 : Wants T M E (noX (f δ5) >>= fun y => takeR y.1 y.2 >>= fun e => wipeD vs e.2 >>= fun δ6 => compL t c f vs (items.drop (i + 1)) δ6 >>= fun z => pure (e.1 :: z.1, z.2)) (fun z => K (es ++ z.1, z.2)) := w5
        refine ⟨_, A, I5, δ5, ok5, Wants.imp (Wants.lock (items := items) (src := src) ok1 (Wants.noX w5)) fun rd e7 w7 => ?_⟩
        obtain ⟨r, δ7⟩ := rd
        intro v I7 H7 ok7 st7 rr
        obtain ⟨ap7, hD7⟩ := ap5.step hD5 st7
        replace w7 : Wants T M E (takeR r δ7 >>= fun e => wipeD vs e.2 >>= fun δ6 => compL t c f vs (items.drop (i + 1)) δ6 >>= fun z => pure (e.1 :: z.1, z.2)) (fun z => K (es ++ z.1, z.2)) := w7
        cases q8 : takeR r δ7 with
        | stuck => rw [q8] at w7; exact w7.elim
        | exc y => exact (takeR_exc q8).elim
        | ok ed =>
          obtain ⟨e, δ8⟩ := ed
          rw [q8, ok_bind] at w7
          obtain ⟨I8, ok8, st8, r8⟩ := ok7.hand rr q8
          obtain ⟨ap8, hD8⟩ := ap7.step hD7 st8
          replace w7 : Wants T M E (wipeD vs δ8 >>= fun δ6 => compL t c f vs (items.drop (i + 1)) δ6 >>= fun z => pure (e :: z.1, z.2)) (fun z => K (es ++ z.1, z.2)) := w7
          cases q9 : wipeD vs δ8 with
          | stuck => rw [q9] at w7; exact w7.elim
          | exc y => exact (wipeD_exc q9).elim
          | ok δ9 =>
            rw [q9, ok_bind] at w7
            have ok9 := ok8.wipe q9
            rw [hw4] at ok9
            have m9 := (wipeD_in q9).2
            have ap9 : Apart (DE.lockM M I1 H1 A items src) A δ9 I8 (Da, Da) := ⟨ap8.i, ap8.h, fun b z i hi => ap8.s b z i (m9 i hi), ap8.x⟩
            have ra8 := (ra5.mono st7.gro).mono st8.gro
            have hlen : xs.length = acc0.length + es.length := by rw [ra.len, List.length_append]
            refine ⟨xs, hD8, ?_, I8, δ9, es ++ [e], xs ++ [v], ok9.tmp ap9, ap9, upd_same, ?_, ?_, (wipeD_in q9).1, ?_, ?_⟩
            · rw [line_eq]
              have : acc0.length + items.length ≤ 16777216 := hlim
              omega
            · rw [← List.append_assoc]
              exact ra8.append (.one r8)
            · rw [List.length_append]
              simp only [List.length_cons, List.length_nil]
              omega
            · exact ((stA.trans (st7.trans st8).d).mono m9).tmp
            · refine w7.bind.imp fun z _ h => ?_
              have h : K (es ++ (e :: z.1), z.2) := h
              simpa only [List.append_assoc, List.singleton_append] using h
  · have hi' : i = items.length := by omega
    subst hi'
    rw [List.drop_length, compL] at w'
    refine .inl ⟨wk.stops I' H' ok'.sub ((ok1.walked so q ok').conv hsrc), ?_⟩
    have okS : Ok T (DE.lockM M I1 H1 A items src) A I' σ H' δ' := Ok.resl ok' (wipe_len σ vs).symm fun i s e => (wipe_at fun z => hno i z s e).symm
    have okU := ok1.unlock so q okS
    have mU : ∀ (i : Nat) (s : S), (unlockD src δ')[i]? = some (some s) → ∃ s' : S, δ'[i]? = some (some s') ∧ (s.mut = true → s'.mut = true) := fun i s e => by
      cases src with
      | none => exact ⟨s, e, id⟩
      | some j =>
        simp only [unlockD] at e
        split at e
        · rename_i d hd
          by_cases z : i = j
          · subst z
            exact ⟨_, hd, fun _ => rfl⟩
          · rw [List.getElem?_set_ne (Ne.symm z)] at e
            exact ⟨s, e, id⟩
        · exact ⟨s, e, id⟩
    have mUm : ∀ i, mutAt (unlockD src δ') i → mutAt δ' i := fun i ⟨s, e, m⟩ => by
      obtain ⟨s', e', m'⟩ := mU i s e
      exact ⟨s', e', m' m⟩
    have e2 : (DE.lockM M I1 H1 A items src).H0 = M.H0 := by cases src <;> rfl
    have e3 : (DE.lockM M I1 H1 A items src).ex = M.ex := by cases src <;> rfl
    have w' : K (es ++ [], δ') := w'
    rw [List.append_nil] at w'
    exact fin es δ' I' H' xs w' okU ⟨ap'.i, fun b z => by rw [← e2]; exact ap'.h b z, fun b z i hi => ap'.s b z i (mUm i hi), fun b z => by rw [← e3]; exact ap'.x b z⟩ hD' ra la
      (fun i hi s e => by
        obtain ⟨s', e', _⟩ := mU i s e
        exact hno i hi s' e') (stp'.mono mUm)
theorem Ok.laidD {M : Amb} {A : Pl} {I H : Hp} {σ : L2.St} {δ : Dl} {Da : Addr} {o : HO} (x : Ok T M A I σ H δ) (h : H Da = none) : Ok T M A I σ (L2.upd H Da o) δ := x.tmp (x.fresh h h)
theorem tLc_of (hv : ∀ i ∈ t.ix, i ∈ vs) : ∀ (σ : L2.St) (H : Hp) (Q : VK), tN T E (compF gi t c f vs) σ H Q → tLc (tI T E gi) (tG T t) (tT T E0' c) (tE T E0' f) vs σ H Q := fun σ H Q ⟨M, A, I, δ, ok, w⟩ => by
  refine ⟨M, A, I, δ, ok, w.bind.imp fun (is, δ1) e1 w1 J I1 H1 ok1 st1 so wk => ?_⟩
  obtain ⟨items, src⟩ := is
  intro Da hD
  have w1 : Wants T M E (if lim items.length then (lockD src δ1 >>= fun δ2 => wipeD vs δ2 >>= fun δ3 => compL t c f vs items δ3 >>= fun z => pure (D.lst z.1, backD δ1 vs (unlockD src z.2))) else Out.stuck) _ := w1
  split at w1
  case isFalse => exact w1.elim
  case isTrue hlim =>
    cases q : lockD src δ1 with
    | stuck => rw [q] at w1; exact w1.elim
    | exc x => exact (lockD_exc q).elim
    | ok δ2 =>
      rw [q, ok_bind] at w1
      cases q2 : wipeD vs δ2 with
      | stuck => rw [q2] at w1; exact w1.elim
      | exc x => exact (wipeD_exc q2).elim
      | ok δ3 =>
        rw [q2, ok_bind] at w1
        have apD : Apart M A δ1 I1 (Da, Da) := ok1.fresh hD hD
        refine loop_core (acc0 := []) hv wk (fun j hj => by
          subst hj
          have : ∃ d, δ1[j]? = some (some (.own d)) ∨ δ1[j]? = some (some (.lck d)) := so.elim (fun z => ⟨_, .inl z⟩) fun z => ⟨_, .inr z⟩
          obtain ⟨d, hd⟩ := this
          have ow : OwnRep T I1 H1 d (A j) := by
            rcases hd with hd | hd
            · exact (ok1.sl j _ hd).2.1
            · exact (ok1.sl j _ hd).2.1
          obtain ⟨⟨u, hu⟩, _⟩ := ow.there
          rw [upd_ne (ne_of_none hu hD)]) (ok1.laidD hD) so q q2 apD upd_same .nil (by simpa using hlim) w1.bind ?_
        intro es δ' I' H' xs k okU apU hD' ra _ hno st
        have hI : Same I1 I' := st.gro
        obtain ⟨okB, mB⟩ := ok1.back (vs := vs) hI okU hno
        have hDs : H Da = none := by
          cases z : H Da with
          | none => rfl
          | some o =>
            obtain ⟨o', z'⟩ := st1.dom Da o z
            rw [hD] at z'
            cases z'
        have st2 : StpD Da A δ1 I1 H1 (backD δ1 vs (unlockD src δ')) I' H' := (StpD.trans (⟨.refl _, fun b o e => .inl e, fun b o n e _ => by rw [upd_ne n]; exact e, fun _ h => h, fun b o e => ⟨o, by rw [upd_ne (ne_of_none e hD)]; exact e⟩⟩ : StpD Da A δ1 I1 H1 δ1 I1 (upd H1 Da (.lst []))) st).mono mB
        exact k (Da, Da) I' H' okB (st1.trans (st2.stp hD)) ⟨rfl, xs, hD', by simpa using ra⟩ ⟨apU.i, apU.h, fun b z i hi => apU.s b z i (mB i hi), apU.x⟩ hDs hDs
end
end DE
set_option Elab.async false
set_option linter.all false
set_option maxRecDepth 100000
set_option maxHeartbeats 2000000
namespace DE
open PySem PySem.Spec PyProof.Rows L2

def comp2L (t : Tg) (c : FT) (gi1 : FI) (t1 : Tg) (c1 : FT) (f : FE) (vs vs1 : List Nat) : Nat → List D → Dl → Out (List D × Dl)
  | _, [], δ => .ok ([], δ)
  | n, d :: ds, δ => do
    let δ1 ← setTg t d δ
    let (k, δ2) ← noX (c δ1)
    if k then do
      let (is, δ3) ← noX (gi1 δ2)
      if lim (n + is.1.length) then do
        let δ4 ← lockD is.2 δ3
        let δ5 ← wipeD vs1 δ4
        let (es, δ6) ← compL t1 c1 f vs1 is.1 δ5
        let δ7 ← wipeD vs (unlockD is.2 δ6)
        let (fs, δ8) ← comp2L t c gi1 t1 c1 f vs vs1 (n + es.length) ds δ7
        pure (es ++ fs, δ8)
      else .stuck
    else do
      let δ5 ← wipeD vs δ2
      comp2L t c gi1 t1 c1 f vs vs1 n ds δ5
def comp2F (gi : FI) (t : Tg) (c : FT) (gi1 : FI) (t1 : Tg) (c1 : FT) (f : FE) (vs vs1 : List Nat) : FN := fun δ => do
  let (is, δ1) ← gi δ
  let δ2 ← lockD is.2 δ1
  let δ3 ← wipeD vs δ2
  let (ds, δ4) ← comp2L t c gi1 t1 c1 f vs vs1 0 is.1 δ3
  pure (.lst ds, backD δ1 vs (unlockD is.2 δ4))
section
variable {T : Ctx} {E : XK} {gi gi1 : FI} {t t1 : Tg} {c c1 : FT} {f : FE} {vs vs1 : List Nat}
theorem tLc2_of (hv : ∀ i ∈ t.ix, i ∈ vs) (hv1 : ∀ i ∈ t1.ix, i ∈ vs1) : ∀ (σ : L2.St) (H : Hp) (Q : VK), tN T E (comp2F gi t c gi1 t1 c1 f vs vs1) σ H Q →
    tLc2 (tI T E gi) (tG T t) (tT T E0' c) (tI T E0' gi1) (tG T t1) (tT T E0' c1) (tE T E0' f) vs vs1 σ H Q := fun σ H Q ⟨M, A, I, δ, ok, w⟩ => by
  replace w : Wants T M E (comp2F gi t c gi1 t1 c1 f vs vs1 δ) (postN T M A δ I H σ Q) := w
  refine ⟨M, A, I, δ, ok, w.bind.imp fun (is, δ1) e1 w1 J I1 H1 ok1 st1 so wk => ?_⟩
  obtain ⟨items, src⟩ := is
  intro Da hD
  replace w1 : Wants T M E (lockD src δ1 >>= fun δ2 => wipeD vs δ2 >>= fun δ3 => comp2L t c gi1 t1 c1 f vs vs1 0 items δ3 >>= fun z => pure (D.lst z.1, backD δ1 vs (unlockD src z.2))) (postN T M A δ I H σ Q) := w1
  cases q : lockD src δ1 with
  | stuck => rw [q] at w1; exact w1.elim
  | exc x => exact (lockD_exc q).elim
  | ok δ2 =>
    rw [q, ok_bind] at w1
    cases q2 : wipeD vs δ2 with
    | stuck => rw [q2] at w1; exact w1.elim
    | exc x => exact (wipeD_exc q2).elim
    | ok δ3 =>
      rw [q2, ok_bind] at w1
      obtain ⟨okl, ml⟩ := ok1.lock so q
      have okw := okl.wipe q2
      have mw := (wipeD_in q2).2
      have m31 : ∀ i, mutAt δ3 i → mutAt δ1 i := fun i hi => (ml i).mp (mw i hi)
      have apD : Apart M A δ1 I1 (Da, Da) := ok1.fresh hD hD
      have apL : Apart (DE.lockM M I1 H1 A items src) A δ3 I1 (Da, Da) := apD.lockM m31
      have stI : StpD Da A δ1 I1 H1 δ1 I1 (upd H1 Da (.lst [])) := ⟨.refl _, fun b o e => .inl e, fun b o n e _ => by rw [upd_ne n]; exact e, fun _ h => h, fun b o e => ⟨o, by rw [upd_ne (ne_of_none e hD)]; exact e⟩⟩
      let KK : Nat → List D → List D × Dl → Prop := fun n es z => Wants T M E (pure (D.lst (es ++ z.1), backD δ1 vs (unlockD src z.2))) (postN T M A δ I H σ Q)
      refine ⟨fun i m H' => m = items.length - i ∧ i ≤ items.length ∧ ∃ I' δ' es xs, Ok T (DE.lockM M I1 H1 A items src) A I' (wipe σ vs) H' δ' ∧ Apart (DE.lockM M I1 H1 A items src) A δ' I' (Da, Da) ∧ H' Da = some (.lst xs) ∧ Reps T I' es xs ∧
          (∀ (v : Nat), v ∈ vs → ∀ s, δ'[v]? ≠ some (some s)) ∧ StpD Da A δ1 I1 H1 δ' I' H' ∧ Wants T M E (comp2L t c gi1 t1 c1 f vs vs1 es.length (items.drop i) δ') (KK 0 es),
        ⟨_, rfl, Nat.zero_le _, I1, δ3, [], [], okw.tmp apL, apL, upd_same, .nil, (wipeD_in q2).1, stI.mono m31, w1.bind⟩, ?_⟩
      rintro i m H' ⟨rfl, hi, I', δ', es, xs, ok', ap', hD', ra, hno, stp', w'⟩
      by_cases hlt : i < items.length
      · have hd : items[i]? = some items[i] := List.getElem?_eq_getElem hlt
        rw [List.drop_eq_getElem_cons hlt, comp2L] at w'
        refine .inr ⟨wk.goes i I' H' hlt ok'.sub (ok1.walked so q ok'), fun H3 => ∃ I' δ' es xs, Ok T (DE.lockM M I1 H1 A items src) A I' (wipe σ vs) H3 δ' ∧ Apart (DE.lockM M I1 H1 A items src) A δ' I' (Da, Da) ∧ H3 Da = some (.lst xs) ∧ Reps T I' es xs ∧
          (∀ (v : Nat), v ∈ vs → ∀ s, δ'[v]? ≠ some (some s)) ∧ StpD Da A δ1 I1 H1 δ' I' H3 ∧ Wants T M E (comp2L t c gi1 t1 c1 f vs vs1 es.length (items.drop (i + 1)) δ') (KK 0 es), fun H3 h3 => ⟨items.length - (i + 1), by omega, rfl, by omega, h3⟩, fun x H2 hy => ?_⟩
        obtain ⟨I2, nw, rx⟩ := wk.yields i I' H' x H2 _ hd ok'.sub (ok1.walked so q ok') hy
        have ok2 := ok'.new nw
        obtain ⟨ap2, hD2⟩ := ap'.step hD' (nw.stp (δ := δ'))
        have ra2 := ra.mono nw.gro
        cases q1 : setTg t items[i] δ' with
        | stuck => rw [q1] at w'; exact w'.elim
        | exc x => exact (setTg_exc q1).elim
        | ok δ4 =>
          rw [q1, ok_bind] at w'
          refine ⟨_, A, I2, δ', items[i], δ4, ok2, rx, q1, fun σ4 ok4 l4 k4 m4 => ?_⟩
          have hw4 : wipe σ4 vs = wipe σ vs := by
            have h1 : wipe σ4 vs = wipe (wipe σ vs) vs := wipe_ext l4 fun i hi => k4 i fun z => hi (hv i z)
            rw [h1]
            exact wipe_ext (wipe_len _ _) fun i hi => wipe_at hi
          refine ⟨hw4, ?_⟩
          have ap4 : Apart (DE.lockM M I1 H1 A items src) A δ4 I2 (Da, Da) := ⟨ap2.i, ap2.h, fun b z i hi => ap2.s b z i (m4 i hi), ap2.x⟩
          have st4 : StpD Da A δ1 I1 H1 δ4 I2 H2 := (stp'.trans nw.stp.d).mono m4
          refine ⟨_, A, I2, δ4, ok4, Wants.imp (Wants.lock (items := items) (src := src) ok1 (Wants.noX w')) fun kd e5 w5 => ?_⟩
          obtain ⟨k, δ5⟩ := kd
          intro I5 H5 ok5 st5
          obtain ⟨ap5, hD5⟩ := ap4.step hD2 st5
          have ra5 := ra2.mono st5.gro
          have stA := st4.trans (st5.d (Da := Da))
          cases k with
          | false =>
            refine iteF ?_
            replace w5 : Wants T M E (wipeD vs δ5 >>= fun δ6 => comp2L t c gi1 t1 c1 f vs vs1 es.length (items.drop (i + 1)) δ6) (KK 0 es) := w5
            cases q7 : wipeD vs δ5 with
            | stuck => rw [q7] at w5; exact w5.elim
            | exc y => exact (wipeD_exc q7).elim
            | ok δ6 =>
              rw [q7, ok_bind] at w5
              have ok6 := ok5.wipe q7
              rw [hw4] at ok6
              have m6 := (wipeD_in q7).2
              exact ⟨I5, δ6, es, xs, ok6, ⟨ap5.i, ap5.h, fun b z i hi => ap5.s b z i (m6 i hi), ap5.x⟩, hD5, ra5, (wipeD_in q7).1, stA.mono m6, w5⟩
          | true =>
            refine iteT ?_
            replace w5 : Wants T M E (noX (gi1 δ5) >>= fun y => if lim (es.length + y.1.1.length) then lockD y.1.2 y.2 >>= fun δ6 => wipeD vs1 δ6 >>= fun δ7 => compL t1 c1 f vs1 y.1.1 δ7 >>= fun z => wipeD vs (unlockD y.1.2 z.2) >>= fun δ8 => comp2L t c gi1 t1 c1 f vs vs1 (es.length + z.1.length) (items.drop (i + 1)) δ8 >>= fun u => pure (z.1 ++ u.1, u.2) else .stuck) (KK 0 es) := w5
            refine ⟨_, A, I5, δ5, ok5, Wants.imp (Wants.lock (items := items) (src := src) ok1 (Wants.noX w5)) fun gd e6 w6 => ?_⟩
            obtain ⟨⟨items1, src1⟩, δ6⟩ := gd
            intro J1 I6 H6 ok6 st6 so6 wk6
            obtain ⟨ap6, hD6⟩ := ap5.step hD5 st6
            have ra6 := ra5.mono st6.gro
            have stB := stA.trans (st6.d (Da := Da))
            replace w6 : Wants T M E (if lim (es.length + items1.length) then lockD src1 δ6 >>= fun δ6 => wipeD vs1 δ6 >>= fun δ7 => compL t1 c1 f vs1 items1 δ7 >>= fun z => wipeD vs (unlockD src1 z.2) >>= fun δ8 => comp2L t c gi1 t1 c1 f vs vs1 (es.length + z.1.length) (items.drop (i + 1)) δ8 >>= fun u => pure (z.1 ++ u.1, u.2) else .stuck) (KK 0 es) := w6
            split at w6
            case isFalse => exact w6.elim
            case isTrue hlim =>
              cases q8 : lockD src1 δ6 with
              | stuck => rw [q8] at w6; exact w6.elim
              | exc x => exact (lockD_exc q8).elim
              | ok δ7 =>
                rw [q8, ok_bind] at w6
                cases q9 : wipeD vs1 δ7 with
                | stuck => rw [q9] at w6; exact w6.elim
                | exc x => exact (wipeD_exc q9).elim
                | ok δ8 =>
                  rw [q9, ok_bind] at w6
                  refine loop_core (E := E) (acc0 := es) hv1 wk6 (fun _ _ => rfl) ok6 so6 q8 q9 ap6 hD6 ra6 hlim (Wants.lock (items := items) (src := src) ok1 w6.bind) ?_
                  intro es1 δ9 I9 H9 xs9 k9 okU apU hD9 ra9 _ hno9 st9
                  replace k9 : Wants T M E (wipeD vs (unlockD src1 δ9) >>= fun δ8 => comp2L t c gi1 t1 c1 f vs vs1 (es.length + es1.length) (items.drop (i + 1)) δ8 >>= fun u => pure (es1 ++ u.1, u.2)) (KK 0 es) := k9
                  cases q10 : wipeD vs (unlockD src1 δ9) with
                  | stuck => rw [q10] at k9; exact k9.elim
                  | exc x => exact (wipeD_exc q10).elim
                  | ok δ10 =>
                    rw [q10, ok_bind] at k9
                    have okV := okU.wipe q10
                    rw [hw4] at okV
                    have m10 := (wipeD_in q10).2
                    refine ⟨I9, δ10, es ++ es1, xs9, okV, ⟨apU.i, apU.h, fun b z i hi => apU.s b z i (m10 i hi), apU.x⟩, hD9, ra9, (wipeD_in q10).1, (stB.trans st9).mono m10, ?_⟩
                    rw [List.length_append]
                    refine k9.bind.imp fun z _ h => ?_
                    have h : Wants T M E (pure (D.lst (es ++ (es1 ++ z.1)), backD δ1 vs (unlockD src z.2))) (postN T M A δ I H σ Q) := h
                    rw [← List.append_assoc] at h
                    exact h
      · have hi' : i = items.length := by omega
        subst hi'
        rw [List.drop_length, comp2L] at w'
        refine .inl ⟨wk.stops I' H' ok'.sub (ok1.walked so q ok'), ?_⟩
        have okS : Ok T (DE.lockM M I1 H1 A items src) A I' σ H' δ' := Ok.resl ok' (wipe_len σ vs).symm fun i s e => (wipe_at fun z => hno i z s e).symm
        have okU := ok1.unlock so q okS
        have mU : ∀ (i : Nat) (s : S), (unlockD src δ')[i]? = some (some s) → ∃ s' : S, δ'[i]? = some (some s') ∧ (s.mut = true → s'.mut = true) := fun i s e => by
          cases src with
          | none => exact ⟨s, e, id⟩
          | some j =>
            simp only [unlockD] at e
            split at e
            · rename_i d hd
              by_cases z : i = j
              · subst z
                exact ⟨_, hd, fun _ => rfl⟩
              · rw [List.getElem?_set_ne (Ne.symm z)] at e
                exact ⟨s, e, id⟩
            · exact ⟨s, e, id⟩
        have mUm : ∀ i, mutAt (unlockD src δ') i → mutAt δ' i := fun i ⟨s, e, m⟩ => by
          obtain ⟨s', e', m'⟩ := mU i s e
          exact ⟨s', e', m' m⟩
        have hI : Same I1 I' := stp'.gro
        obtain ⟨okB, mB⟩ := ok1.back (vs := vs) hI okU (fun i hi s e => by
          obtain ⟨s', e', _⟩ := mU i s e
          exact hno i hi s' e')
        have hDs : H Da = none := by
          cases z : H Da with
          | none => rfl
          | some o =>
            obtain ⟨o', z'⟩ := st1.dom Da o z
            rw [hD] at z'
            cases z'
        have e2 : (DE.lockM M I1 H1 A items src).H0 = M.H0 := by cases src <;> rfl
        have e3 : (DE.lockM M I1 H1 A items src).ex = M.ex := by cases src <;> rfl
        have w' : Wants T M E (pure (D.lst (es ++ []), backD δ1 vs (unlockD src δ'))) (postN T M A δ I H σ Q) := w'
        rw [List.append_nil] at w'
        exact w' (Da, Da) I' H' okB (st1.trans ((stp'.mono fun i hi => mUm i (mB i hi)).stp hD)) ⟨rfl, xs, hD', ra⟩ ⟨ap'.i, fun b z => by rw [← e2]; exact ap'.h b z, fun b z i hi => ap'.s b z i (mUm i (mB i hi)), fun b z => by rw [← e3]; exact ap'.x b z⟩ hDs hDs
variable {X : Cx} {tg iter tg1 iter1 elt : Expr} {ifs ifs1 : List Expr} {scope : Scope} {own : List (Str × Nat)} {pos : Pos}
abbrev ForBlk (X : Cx) (scope : Scope) (P : Cx → Prop) : Prop := ∀ (s : Shared) (H : Hp) (C : Addr) (cl : List (Str × Addr)) (fp : List Addr), P (X.blk s H scope (compEnvC scope cl C X.env) fp)
theorem dn_lc (hN : X.N.Nodup) (hi : DI T X E tg iter gi) (ok : BlkOk X.N X.env.scope scope own) (hg : ForBlk X scope fun X => DG T X tg t) (ht : ForBlk X scope fun X => DTs T X E0' ifs c) (he : ForBlk X scope fun X => DE T X E0' elt f)
    (hv : ∀ i ∈ t.ix, i ∈ own.map (·.2) := by decide) (hc : X.calm = true := by rfl) (hs : ∀ x, foldedSetIterable iter X.env x = pure x := by intro _; rfl) : DN T X E (.ListComp elt [⟨tg, iter, ifs, 0⟩] scope pos) (compF gi t c f (own.map (·.2))) :=
  PE.of (pe_lc hc hN hi ok hg ht he hs) (tLc_of hv)
theorem dn_lc2 (hN : X.N.Nodup) (hi : DI T X E tg iter gi) (ok : BlkOk X.N X.env.scope scope own) (hg : ForBlk X scope fun X => DG T X tg t) (ht : ForBlk X scope fun X => DTs T X E0' ifs c) (hi1 : ForBlk X scope fun X => DI T X E0' tg1 iter1 gi1) (hg1 : ForBlk X scope fun X => DG T X tg1 t1) (ht1 : ForBlk X scope fun X => DTs T X E0' ifs1 c1) (he : ForBlk X scope fun X => DE T X E0' elt f)
    (hvv : ∀ i ∈ vs1, i ∈ own.map (·.2) := by decide) (hv : ∀ i ∈ t.ix, i ∈ own.map (·.2) := by decide) (hv1 : ∀ i ∈ t1.ix, i ∈ vs1 := by decide) (hc : X.calm = true := by rfl) (hs : ∀ x, foldedSetIterable iter X.env x = pure x := by intro _; rfl) (hs1 : ∀ env x, foldedSetIterable iter1 env x = pure x := by intro _ _; rfl) :
    DN T X E (.ListComp elt [⟨tg, iter, ifs, 0⟩, ⟨tg1, iter1, ifs1, 0⟩] scope pos) (comp2F gi t c gi1 t1 c1 f (own.map (·.2)) vs1) :=
  PE.of (pe_lc2 hc hN hi ok hvv hg ht hi1 hg1 ht1 he hs hs1) (tLc2_of hv hv1)
variable {i : Nat} {y : Str} {py spos : Pos}
theorem ds_setLcN (hN : X.N.Nodup) (hi : DI T X E tg iter gi) (ok : BlkOk X.N X.env.scope scope own) (hg : ForBlk X scope fun X => DG T X tg t) (ht : ForBlk X scope fun X => DTs T X E0' ifs c) (he : ForBlk X scope fun X => DE T X E0' elt f)
    (hsw : swapsWith (.ListComp elt [⟨tg, iter, ifs, 0⟩] scope pos) (some (.Name y py)) spos.line X.env = pure true) (hy : X.N[i]? = some y := by rfl) (hyl : X.env.scope.names.lookup y = some .local := by rfl)
    (hv : ∀ i ∈ t.ix, i ∈ own.map (·.2) := by decide) (hc : X.calm = true := by rfl) (hs : ∀ x, foldedSetIterable iter X.env x = pure x := by intro _; rfl) : DS T X E (.Assign [.Name y py] (.ListComp elt [⟨tg, iter, ifs, 0⟩] scope pos) spos) (setNS i (compF gi t c f (own.map (·.2)))) :=
  PS.of (ps_setLc hc hN hy hyl hsw hi ok hg ht he hs) fun D σ H h => tAsgN_of (tLc_of hv) h
theorem ds_setLc (hN : X.N.Nodup) (hi : DI T X E tg iter gi) (ok : BlkOk X.N X.env.scope scope own) (hg : ForBlk X scope fun X => DG T X tg t) (ht : ForBlk X scope fun X => DTs T X E0' ifs c) (he : ForBlk X scope fun X => DE T X E0' elt f)
    (hsw : swapsWith (.ListComp elt [⟨tg, iter, ifs, 0⟩] scope pos) (some (.Name y py)) spos.line X.env = pure true) (hy : X.N[i]? = some y := by rfl) (hyl : X.env.scope.names.lookup y = some .local := by rfl)
    (hv : ∀ i ∈ t.ix, i ∈ own.map (·.2) := by decide) (hc : X.calm = true := by rfl) (hs : ∀ x, foldedSetIterable iter X.env x = pure x := by intro _; rfl) : DS T X E (.Assign [.Name y py] (.ListComp elt [⟨tg, iter, ifs, 0⟩] scope pos) spos) (setS i (freshF (compF gi t c f (own.map (·.2))))) :=
  PS.of (ps_setLc hc hN hy hyl hsw hi ok hg ht he hs) fun D σ H h => tAsg_of (tN_tE (tLc_of hv)) h
theorem ds_setLc2 (hN : X.N.Nodup) (hi : DI T X E tg iter gi) (ok : BlkOk X.N X.env.scope scope own) (hg : ForBlk X scope fun X => DG T X tg t) (ht : ForBlk X scope fun X => DTs T X E0' ifs c) (hi1 : ForBlk X scope fun X => DI T X E0' tg1 iter1 gi1) (hg1 : ForBlk X scope fun X => DG T X tg1 t1) (ht1 : ForBlk X scope fun X => DTs T X E0' ifs1 c1) (he : ForBlk X scope fun X => DE T X E0' elt f)
    (hsw : swapsWith (.ListComp elt [⟨tg, iter, ifs, 0⟩, ⟨tg1, iter1, ifs1, 0⟩] scope pos) (some (.Name y py)) spos.line X.env = pure true) (hy : X.N[i]? = some y := by rfl) (hyl : X.env.scope.names.lookup y = some .local := by rfl)
    (hvv : ∀ i ∈ vs1, i ∈ own.map (·.2) := by decide) (hv : ∀ i ∈ t.ix, i ∈ own.map (·.2) := by decide) (hv1 : ∀ i ∈ t1.ix, i ∈ vs1 := by decide) (hc : X.calm = true := by rfl) (hs : ∀ x, foldedSetIterable iter X.env x = pure x := by intro _; rfl) (hs1 : ∀ env x, foldedSetIterable iter1 env x = pure x := by intro _ _; rfl) :
    DS T X E (.Assign [.Name y py] (.ListComp elt [⟨tg, iter, ifs, 0⟩, ⟨tg1, iter1, ifs1, 0⟩] scope pos) spos) (setS i (freshF (comp2F gi t c gi1 t1 c1 f (own.map (·.2)) vs1))) :=
  PS.of (ps_setLc2 hc hN hy hyl hsw hi ok hvv hg ht hi1 hg1 ht1 he hs hs1) fun D σ H h => tAsg_of (tN_tE (tLc2_of hv hv1)) h
end

/-! ### while -/
def whileL (t : FT) (b : FS) : Nat → Dl → Out (Fl × Dl)
  | 0, _ => .stuck
  | n + 1, δ => do
    let (k, δ1) ← t δ
    if k then do
      let (l, δ2) ← b δ1
      match l with
      | .nx => whileL t b n δ2
      | .ct => whileL t b n δ2
      | .bk => .ok (.nx, δ2)
      | .rt s => .ok (.rt s, δ2)
    else .ok (.nx, δ1)
open Classical in
noncomputable def whileF (t : FT) (b : FS) : FS := fun δ => if h : ∃ n, whileL t b n δ ≠ .stuck then whileL t b h.choose δ else .stuck
theorem whileL_up (t : FT) (b : FS) : ∀ (n m : Nat) (δ : Dl), n ≤ m → whileL t b n δ ≠ .stuck → whileL t b m δ = whileL t b n δ
  | 0, _, _, _, h => absurd rfl h
  | n + 1, 0, _, h, _ => by omega
  | n + 1, m + 1, δ, hm, h => by
    rw [whileL] at h ⊢
    rw [whileL]
    cases q : t δ with
    | stuck => rfl
    | exc x => rfl
    | ok z =>
      obtain ⟨k, δ1⟩ := z
      rw [q] at h
      simp only [ok_bind] at h ⊢
      cases k with
      | false => rfl
      | true =>
        simp only [if_true] at h ⊢
        cases q2 : b δ1 with
        | stuck => rfl
        | exc x => rfl
        | ok z =>
          obtain ⟨l, δ2⟩ := z
          rw [q2] at h
          simp only [ok_bind] at h ⊢
          cases l with
          | nx => exact whileL_up t b n m δ2 (by omega) h
          | ct => exact whileL_up t b n m δ2 (by omega) h
          | bk => rfl
          | rt s => rfl
theorem whileF_eq {t : FT} {b : FS} {δ : Dl} {n : Nat} (h : whileL t b n δ ≠ .stuck) : whileF t b δ = whileL t b n δ := by
  have hx : ∃ n, whileL t b n δ ≠ .stuck := ⟨n, h⟩
  unfold whileF
  rw [dif_pos hx]
  have hc := hx.choose_spec
  by_cases z : n ≤ hx.choose
  · exact whileL_up t b _ _ δ z h
  · exact (whileL_up t b _ _ δ (by omega) hc).symm
theorem whileF_ok {t : FT} {b : FS} {δ : Dl} {n : Nat} {z : Fl × Dl} (h : whileL t b n δ = .ok z) : whileF t b δ = .ok z := by
  rw [whileF_eq (n := n) (by rw [h]; intro q; cases q), h]
section
variable {T : Ctx} {X : Cx} {E : XK} {c : Expr} {body : List Stmt} {t : FT} {b : FS} {pos : Pos}
theorem ds_while (hc : DT T X E c t) (hb : DSs T X E body b) (hp : PassesOwn (model X.prog X.w) X.A X.env X.xe) : DS T X E (.While c body [] pos) (whileF t b) := PS.of (ps_while hp hc hb) fun D σ H ⟨M, A, I, δ, ok, w⟩ => by
  have hx : ∃ n, whileL t b n δ ≠ .stuck := by
    by_cases h : ∃ n, whileL t b n δ ≠ .stuck
    · exact h
    · unfold whileF at w
      rw [dif_neg h] at w
      exact w.elim
  obtain ⟨n, hn⟩ := hx
  rw [whileF_eq hn] at w
  refine ⟨fun m σ' H' => ∃ A' I' δ', Ok T M A' I' σ' H' δ' ∧ Wants T M E (whileL t b m δ') (fun (l, δ') => match l with
          | .nx => ∀ A' I' σ' H', Ok T M A' I' σ' H' δ' → D.nx σ' H'
          | .bk => ∀ A' I' σ' H', Ok T M A' I' σ' H' δ' → D.bk σ' H'
          | .ct => ∀ A' I' σ' H', Ok T M A' I' σ' H' δ' → D.ct σ' H'
          | .rt s => ∀ A' I' σ' H' v, Ok T M A' I' σ' H' δ' → RetOk T M A' I' H' δ' v s → D.rt v H'), ⟨n, A, I, δ, ok, w⟩, ?_⟩
  rintro m σ' H' ⟨A', I', δ', ok', w'⟩
  cases m with
  | zero => exact w'.elim
  | succ m =>
    rw [whileL] at w'
    refine ⟨M, A', I', δ', ok', w'.bind.imp fun (k, δ1) e1 w1 I1 H1 ok1 st1 => ?_⟩
    cases k with
    | false => exact iteF (w1 A' I1 σ' H1 ok1)
    | true =>
      refine iteT ⟨fun σ3 H3 => ∃ A3 I3 δ3, Ok T M A3 I3 σ3 H3 δ3 ∧ Wants T M E (whileL t b m δ3) _, fun σ3 H3 h3 => ⟨m, by omega, h3⟩, ?_⟩
      have w1 : Wants T M E (b δ1 >>= fun z => match z.1 with
        | .nx => whileL t b m z.2
        | .ct => whileL t b m z.2
        | .bk => .ok (.nx, z.2)
        | .rt s => .ok (.rt s, z.2)) _ := w1
      refine ⟨M, A', I1, δ1, ok1, w1.bind.imp fun (l, δ2) e2 w2 => ?_⟩
      cases l with
      | nx => exact fun A5 I5 σ5 H5 ok5 => ⟨A5, I5, δ2, ok5, w2⟩
      | ct => exact fun A5 I5 σ5 H5 ok5 => ⟨A5, I5, δ2, ok5, w2⟩
      | bk => exact w2
      | rt s => exact w2
end
end DE
set_option Elab.async false
set_option linter.all false
set_option maxRecDepth 100000
set_option maxHeartbeats 2000000
namespace DE
open PySem PySem.Spec PyProof.Rows L2

/-! ### arithmetic -/
def addD : D → D → Option D
  | .int i, .int j => some (.int (i + j))
  | .str a, .str b => if lim (a.length + b.length) then some (.str (a ++ b)) else none
  | .lst a, .lst b => if lim (a.length + b.length) then some (.lst (a ++ b)) else none
  | .tup a, .tup b => if a ≠ [] ∧ b ≠ [] ∧ lim (a.length + b.length) then some (.tup (a ++ b)) else none
  | _, _ => none
def subD : D → D → Option D
  | .int i, .int j => some (.int (i - j))
  | _, _ => none
/-- one of both is small -/
def smallI (i : Int) : Bool := decide (-(2 ^ 64) < i) && decide (i < 2 ^ 64)
def mulD : D → D → Option D
  | .int i, .int j => if smallI i || smallI j || (decide (i.natAbs < 2 ^ 1000) && decide (j.natAbs < 2 ^ 1000)) then some (.int (i * j)) else none
  | _, _ => none
/-- by a positive divisor -/
def modD : D → D → Option D
  | .int i, .int j => if 0 < j then some (.int (i % j)) else none
  | _, _ => none
def fdivD : D → D → Option D
  | .int i, .int j => if 0 < j ∧ j < 1073741824 then some (.int (i / j)) else none
  | _, _ => none
def powD : D → D → Option D
  | .int i, .int j => if 0 ≤ j ∧ j ≤ 1000000 ∧ i.natAbs < 2 ^ 64 then some (.int (i ^ j.toNat)) else none
  | _, _ => none
def negD : D → Option D
  | .int i => some (.int (-i))
  | _ => none
section
variable {T : Ctx} {X : Cx} {E : XK} {a b : Expr} {fa fb : FE} {pos : Pos}
theorem smallI_iff {i : Int} (h : smallI i = true) : -(2 ^ 64) < i ∧ i < 2 ^ 64 := by
  simp only [smallI, Bool.and_eq_true, decide_eq_true_eq] at h
  exact h
/-
theorem G2.or {r r' : R2} {g g' : D → D → Option D} (h : G2 T r g) (h' : G2 T r' g') : G2 T (fun x y H Q => r x y H Q ∨ r' x y H Q) (fun a b => (g a b).orElse fun _ => g' a b) := by
  intro I H d1 d2 d v1 v2 Q s h1 h2 e q
  cases z : g d1 d2 with
  | some d' =>
    rw [z] at e
    cases e
    exact .inl (h s h1 h2 z q)
  | none =>
    rw [z] at e
    exact .inr (h' s h1 h2 e q)
-/
theorem G2.left {r r' : R2} {g : D → D → Option D} (h : G2 T r g) : G2 T (fun x y H Q => r x y H Q ∨ r' x y H Q) g := fun s h1 h2 e q => .inl (h s h1 h2 e q)
def rAddAll (K : PySem.W.Frag) : R2 := fun x y H Q => (rI0 (fun i j => .int (i + j)) x y H Q ∨ ∃ i j, x = .str i ∧ y = .str j ∧ i.length + j.length ≤ sizeLine ∧ Q (.str (i ++ j)) H) ∨ (rCat x y H Q ∨ rCatT K x y H Q)
theorem op_addAll : OpR X (binaryOp .Add) (rAddAll X.K) := (op_add.or op_add_str).or (op_cat.or op_catT)
theorem g_add (hK : T.K = X.K) : G2 T (rAddAll X.K) addD := by
  intro I H d1 d2 d v1 v2 Q s h1 h2 e q
  unfold addD at e
  split at e
  · cases e
    rw [h1.int_inv, h2.int_inv]
    exact .inl (.inl ⟨_, _, rfl, rfl, q _ I H (.refl s) .ofint⟩)
  · split at e
    · rename_i hl
      cases e
      rw [h1.str_inv, h2.str_inv]
      refine .inl (.inr ⟨_, _, rfl, rfl, by simpa using hl.le, ?_⟩)
      rw [mkS_app]
      exact q _ I H (.refl s) .ofstr
    · cases e
  · split at e
    · rename_i hl
      cases e
      obtain ⟨a, xs, rfl, e1, r1⟩ := h1.lst_inv s
      obtain ⟨b, ys, rfl, e2, r2⟩ := h2.lst_inv s
      refine .inr (.inl ⟨a, b, xs, ys, rfl, rfl, e1, e2, by rw [r1.len, r2.len]; exact hl.le, fun p hp => ?_⟩)
      obtain ⟨n, r⟩ := new_lst s (r1.append r2) hp
      exact q _ _ _ n r
    · cases e
  · split at e
    · rename_i hl
      obtain ⟨n1, n2, hl⟩ := hl
      cases e
      obtain ⟨a, xs, rfl, e1, r1⟩ := h1.tup_inv s
      obtain ⟨b, ys, rfl, e2, r2⟩ := h2.tup_inv s
      refine .inr (.inr ?_)
      have nx : xs ≠ [] := fun z => n1 (List.eq_nil_of_length_eq_zero (by rw [← r1.len, z]; rfl))
      have ny : ys ≠ [] := fun z => n2 (List.eq_nil_of_length_eq_zero (by rw [← r2.len, z]; rfl))
      refine ⟨a, b, xs, ys, rfl, rfl, by rw [← hK]; exact e1, by rw [← hK]; exact e2, nx, by rw [r1.len, r2.len]; exact hl.le, ?_⟩
      refine ⟨fun z => absurd z ny, fun _ p hp => ?_⟩
      obtain ⟨n, r⟩ := new_tup s (r1.append r2) hp
      exact q _ _ _ n r
    · cases e
  · cases e
theorem de_add (ha : DE T X E a fa) (hb : DE T X E b fb) (hK : T.K = X.K := by rfl) : DE T X E (.BinOp a .Add b pos) (op2F addD fa fb) := de_op op_addAll (g_add hK) ha hb
theorem g_sub : G2 T (rI0 fun i j => .int (i - j)) subD := by
  intro I H d1 d2 d v1 v2 Q s h1 h2 e q
  unfold subD at e
  split at e
  · cases e
    rw [h1.int_inv, h2.int_inv]
    exact ⟨_, _, rfl, rfl, q _ I H (.refl s) .ofint⟩
  · cases e
theorem de_sub (ha : DE T X E a fa) (hb : DE T X E b fb) : DE T X E (.BinOp a .Sub b pos) (op2F subD fa fb) := de_op op_sub g_sub ha hb
def rMulA : R2 := fun x y H Q => rI CMul (fun i j => .int (i * j)) x y H Q ∨ rI CMulX (fun i j => .int (i * j)) x y H Q
theorem g_mul : G2 T rMulA mulD := by
  intro I H d1 d2 d v1 v2 Q s h1 h2 e q
  unfold mulD at e
  split at e
  · split at e
    · rename_i hs
      cases e
      rw [h1.int_inv, h2.int_inv]
      simp only [Bool.or_eq_true, Bool.and_eq_true, decide_eq_true_eq] at hs
      rcases hs with hs | hs
      · exact .inl ⟨_, _, rfl, rfl, hs.elim (fun z => .inl (smallI_iff z)) (fun z => .inr (smallI_iff z)), q _ I H (.refl s) .ofint⟩
      · exact .inr ⟨_, _, rfl, rfl, mulx_ok hs.1 hs.2 (by decide), q _ I H (.refl s) .ofint⟩
    · cases e
  · cases e
theorem de_mul (ha : DE T X E a fa) (hb : DE T X E b fb) : DE T X E (.BinOp a .Mult b pos) (op2F mulD fa fb) := de_op (op_mul.or op_mulX) g_mul ha hb
theorem g_mod : G2 T (rI (fun _ j => 0 < j) fun i j => .int (i % j)) modD := by
  intro I H d1 d2 d v1 v2 Q s h1 h2 e q
  unfold modD at e
  split at e
  · split at e
    · rename_i hs
      cases e
      rw [h1.int_inv, h2.int_inv]
      exact ⟨_, _, rfl, rfl, hs, q _ I H (.refl s) .ofint⟩
    · cases e
  · cases e
theorem de_mod (ha : DE T X E a fa) (hb : DE T X E b fb) : DE T X E (.BinOp a .Mod b pos) (op2F modD fa fb) := de_op op_mod g_mod ha hb
theorem g_fdiv : G2 T (rI CDiv fun i j => .int (i / j)) fdivD := by
  intro I H d1 d2 d v1 v2 Q s h1 h2 e q
  unfold fdivD at e
  split at e
  · split at e
    · rename_i hs
      cases e
      rw [h1.int_inv, h2.int_inv]
      exact ⟨_, _, rfl, rfl, hs, q _ I H (.refl s) .ofint⟩
    · cases e
  · cases e
theorem de_fdiv (ha : DE T X E a fa) (hb : DE T X E b fb) : DE T X E (.BinOp a .FloorDiv b pos) (op2F fdivD fa fb) := de_op op_fdiv g_fdiv ha hb
theorem g_pow : G2 T (rI CPow fun i j => .int (i ^ j.toNat)) powD := by
  intro I H d1 d2 d v1 v2 Q s h1 h2 e q
  unfold powD at e
  split at e
  · split at e
    · rename_i hs
      cases e
      rw [h1.int_inv, h2.int_inv]
      exact ⟨_, _, rfl, rfl, hs, q _ I H (.refl s) .ofint⟩
    · cases e
  · cases e
theorem de_pow (ha : DE T X E a fa) (hb : DE T X E b fb) : DE T X E (.BinOp a .Pow b pos) (op2F powD fa fb) := de_op op_pow g_pow ha hb
theorem g_neg : G1 T (rU fun i => .int (-i)) negD := by
  intro I H d1 d v1 Q s h1 e q
  unfold negD at e
  split at e
  · cases e
    rw [h1.int_inv]
    exact ⟨_, rfl, q _ I H (.refl s) .ofint⟩
  · cases e
theorem de_neg (ha : DE T X E a fa) : DE T X E (.UnaryOp .USub a pos) (op1F negD fa) := de_un un_neg g_neg ha
end

/-! ### equality of plain data -/
mutual
/-- data of a depth, of plain things, lists and tuples -/
def D.flat : Nat → D → Bool
  | _, .non => true
  | _, .bl _ => true
  | _, .int _ => true
  | _, .str _ => true
  | 0, .lst _ => false
  | n + 1, .lst xs => flats n xs
  | 0, .tup _ => false
  | n + 1, .tup xs => flats n xs
  | _, _ => false
def flats : Nat → List D → Bool
  | _, [] => true
  | n, x :: xs => D.flat n x && flats n xs
end
mutual
def D.eqb : D → D → Bool
  | .non, .non => true
  | .bl a, .bl b => a == b
  | .bl a, .int j => (if a then 1 else 0) == j
  | .int i, .bl b => i == (if b then 1 else 0)
  | .int i, .int j => i == j
  | .str x, .str y => x == y
  | .lst xs, .lst ys => eqbs xs ys
  | .tup xs, .tup ys => eqbs xs ys
  | _, _ => false
def eqbs : List D → List D → Bool
  | [], [] => true
  | x :: xs, y :: ys => D.eqb x y && eqbs xs ys
  | _, _ => false
end
mutual
def toP : D → PyData
  | .bl b => .bool b
  | .int i => .int i
  | .str s => .str (mkS s)
  | .lst xs => .list (toPs xs)
  | .tup xs => .tuple (toPs xs)
  | _ => .none
def toPs : List D → List PyData
  | [] => []
  | x :: xs => toP x :: toPs xs
end
theorem mkS_ok (x : List Ch) : PyData.strOk (mkS x) = true := by
  simp only [PyData.strOk, mkS, List.all_toArray, List.all_map, List.all_eq_true, Function.comp, decide_eq_true_eq]
  exact fun c _ => c.2
mutual
theorem flat_shape : ∀ (n : Nat) (d : D), D.flat n d = true → (toP d).canLay0 = true ∧ (toP d).depth ≤ n
  | _, .non, _ => by simp [toP, PyData.canLay0, PyData.depth]
  | _, .bl _, _ => by simp [toP, PyData.canLay0, PyData.depth]
  | _, .int _, _ => by simp [toP, PyData.canLay0, PyData.depth]
  | _, .str _, _ => by simp [toP, PyData.canLay0, PyData.depth, mkS_ok]
  | n + 1, .lst xs, h => by
    simp only [D.flat] at h
    obtain ⟨h1, h2⟩ := flats_shape n xs h
    simp only [toP, PyData.canLay0, PyData.depth]
    exact ⟨h1, by omega⟩
  | n + 1, .tup xs, h => by
    simp only [D.flat] at h
    obtain ⟨h1, h2⟩ := flats_shape n xs h
    simp only [toP, PyData.canLay0, PyData.depth]
    exact ⟨h1, by omega⟩
  | 0, .lst xs, h => by simp [D.flat] at h
  | 0, .tup xs, h => by simp [D.flat] at h
  | _, .undef, h => by simp [D.flat] at h
  | _, .frl _, h => by simp [D.flat] at h
  | _, .dk _ _, h => by simp [D.flat] at h
  | _, .obj _ _, h => by simp [D.flat] at h
theorem flats_shape : ∀ (n : Nat) (ds : List D), flats n ds = true → PyData.canLayAll0 (toPs ds) = true ∧ PyData.depthAll (toPs ds) ≤ n
  | _, [], _ => by simp [toPs, PyData.canLayAll0, PyData.depthAll]
  | n, x :: xs, h => by
    simp only [flats, Bool.and_eq_true] at h
    obtain ⟨h1, h2⟩ := flat_shape n x h.1
    obtain ⟨h3, h4⟩ := flats_shape n xs h.2
    simp only [toPs, PyData.canLayAll0, PyData.depthAll, h1, h3, Bool.and_self]
    exact ⟨trivial, by omega⟩
end
theorem mkS_beq (x y : List Ch) : (mkS x == mkS y) = (x == y) := by
  rw [Bool.eq_iff_iff]
  simp [mkS_eq]
mutual
theorem eqv_eq : ∀ (n m : Nat) (a b : D), D.flat n a = true → D.flat m b = true → PyData.eqv (toP a) (toP b) = D.eqb a b
  | _, _, .non, .non, _, _ | _, _, .non, .bl _, _, _ | _, _, .non, .int _, _, _ | _, _, .non, .str _, _, _ | _, _, .non, .lst _, _, _ | _, _, .non, .tup _, _, _ => by simp [toP, PyData.eqv, D.eqb]
  | _, _, .bl _, .non, _, _ | _, _, .bl _, .bl _, _, _ | _, _, .bl _, .int _, _, _ | _, _, .bl _, .str _, _, _ | _, _, .bl _, .lst _, _, _ | _, _, .bl _, .tup _, _, _ => by simp [toP, PyData.eqv, D.eqb]
  | _, _, .int _, .non, _, _ | _, _, .int _, .bl _, _, _ | _, _, .int _, .int _, _, _ | _, _, .int _, .str _, _, _ | _, _, .int _, .lst _, _, _ | _, _, .int _, .tup _, _, _ => by simp [toP, PyData.eqv, D.eqb]
  | _, _, .str _, .non, _, _ | _, _, .str _, .bl _, _, _ | _, _, .str _, .int _, _, _ | _, _, .str _, .str _, _, _ | _, _, .str _, .lst _, _, _ | _, _, .str _, .tup _, _, _ => by simp [toP, PyData.eqv, D.eqb, mkS_beq]
  | _, _, .lst _, .non, _, _ | _, _, .lst _, .bl _, _, _ | _, _, .lst _, .int _, _, _ | _, _, .lst _, .str _, _, _ | _, _, .lst _, .tup _, _, _ => by simp [toP, PyData.eqv, D.eqb]
  | _, _, .tup _, .non, _, _ | _, _, .tup _, .bl _, _, _ | _, _, .tup _, .int _, _, _ | _, _, .tup _, .str _, _, _ | _, _, .tup _, .lst _, _, _ => by simp [toP, PyData.eqv, D.eqb]
  | n + 1, m + 1, .lst xs, .lst ys, h1, h2 => by
    simp only [D.flat] at h1 h2
    simp only [toP, PyData.eqv, D.eqb]
    exact eqvs_eq n m xs ys h1 h2
  | n + 1, m + 1, .tup xs, .tup ys, h1, h2 => by
    simp only [D.flat] at h1 h2
    simp only [toP, PyData.eqv, D.eqb]
    exact eqvs_eq n m xs ys h1 h2
  | 0, _, .lst _, .lst _, h, _ => by simp [D.flat] at h
  | _, 0, .lst _, .lst _, _, h => by simp [D.flat] at h
  | 0, _, .tup _, .tup _, h, _ => by simp [D.flat] at h
  | _, 0, .tup _, .tup _, _, h => by simp [D.flat] at h
  | _, _, .undef, _, h, _ | _, _, .frl _, _, h, _ | _, _, .dk _ _, _, h, _ | _, _, .obj _ _, _, h, _ => by simp [D.flat] at h
  | _, _, _, .undef, _, h | _, _, _, .frl _, _, h | _, _, _, .dk _ _, _, h | _, _, _, .obj _ _, _, h => by simp [D.flat] at h
theorem eqvs_eq : ∀ (n m : Nat) (a b : List D), flats n a = true → flats m b = true → PyData.eqvAll (toPs a) (toPs b) = eqbs a b
  | _, _, [], [], _, _ => by simp [toPs, PyData.eqvAll, eqbs]
  | _, _, [], _ :: _, _, _ => by simp [toPs, PyData.eqvAll, eqbs]
  | _, _, _ :: _, [], _, _ => by simp [toPs, PyData.eqvAll, eqbs]
  | n, m, x :: xs, y :: ys, h1, h2 => by
    simp only [flats, Bool.and_eq_true] at h1 h2
    simp only [toPs, PyData.eqvAll, eqbs, eqv_eq n m x y h1.1 h2.1, eqvs_eq n m xs ys h1.2 h2.2]
end
section
variable {T : Ctx} {I H : Hp}
mutual
theorem dp_of (s : Same I H) : ∀ (n : Nat) (d : D) (v : V), D.flat n d = true → Rep T I d v → Dp T.K H v (toP d)
  | _, .non, _, _, r => by
    have e : toP .non = .none := by simp [toP]
    rw [r.non_inv, e]
    exact .non
  | _, .bl _, _, _, r => by rw [r.bl_inv, toP]; exact .bl _
  | _, .int _, _, _, r => by rw [r.int_inv, toP]; exact .int _
  | _, .str _, _, _, r => by rw [r.str_inv, toP]; exact .str _
  | n + 1, .lst xs, _, h, r => by
    simp only [D.flat] at h
    obtain ⟨a, ys, rfl, e, rr⟩ := r.lst_inv
    rw [toP]
    exact .lst (.of (s _ _ e)) (dps_of s n xs ys h rr)
  | n + 1, .tup xs, _, h, r => by
    simp only [D.flat] at h
    obtain ⟨a, ys, rfl, e, rr⟩ := r.tup_inv
    rw [toP]
    exact .tup (Same.sqt s e) (dps_of s n xs ys h rr)
  | 0, .lst xs, _, h, _ => by simp [D.flat] at h
  | 0, .tup xs, _, h, _ => by simp [D.flat] at h
  | _, .undef, _, h, _ => by simp [D.flat] at h
  | _, .frl _, _, h, _ => by simp [D.flat] at h
  | _, .dk _ _, _, h, _ => by simp [D.flat] at h
  | _, .obj _ _, _, h, _ => by simp [D.flat] at h
theorem dps_of (s : Same I H) : ∀ (n : Nat) (ds : List D) (vs : List V), flats n ds = true → Reps T I ds vs → DpAll T.K H vs (toPs ds)
  | _, [], vs, _, r => by
    rw [r.nil_inv, toPs]
    exact .nil
  | n, x :: xs, vs, h, r => by
    simp only [flats, Bool.and_eq_true] at h
    obtain ⟨w, ws, rfl, r1, r2⟩ := r.cons_inv
    rw [toPs]
    exact .cons (dp_of s n x w h.1 r1) (dps_of s n xs ws h.2 r2)
end
theorem dp_red (s : Same I H) {n : Nat} {d : D} {v : V} (h : D.flat n d = true) (r : Red T I H d v) : Dp T.K H v (toP d) := by
  rcases r with r | ⟨p, rfl, o⟩
  · exact dp_of s n d v h r
  · cases d with
    | lst xs =>
      obtain ⟨_, ys, e, rr⟩ := o
      cases n with
      | zero => simp [D.flat] at h
      | succ n =>
        simp only [D.flat] at h
        rw [toP]
        exact .lst (.of e) (dps_of s n xs ys h rr)
    | dk ks ds => simp [D.flat] at h
    | obj c fs => simp [D.flat] at h
    | _ => exact o.elim
end
def eqD (a b : D) : Option D := if D.flat 60 a && D.flat 60 b then some (.bl (D.eqb a b)) else none
def neD (a b : D) : Option D := if D.flat 60 a && D.flat 60 b then some (.bl (!D.eqb a b)) else none
section
variable {T : Ctx} {X : Cx} {E : XK} {a b : Expr} {fa fb : FE} {pos : Pos}
theorem shaped_of {d : D} (h : D.flat 60 d = true) : SeqAt.shaped (toP d) = true := by
  obtain ⟨h1, h2⟩ := flat_shape 60 d h
  unfold SeqAt.shaped
  rw [h1, Bool.true_and]
  exact decide_eq_true (by omega)
theorem g_eq (hK : T.K = X.K) : G2 T (rEqD X.K) eqD := by
  intro I H d1 d2 d v1 v2 Q s h1 h2 e q
  unfold eqD at e
  split at e
  · rename_i hf
    cases e
    simp only [Bool.and_eq_true] at hf
    refine ⟨toP d1, toP d2, by rw [← hK]; exact dp_red s hf.1 h1, by rw [← hK]; exact dp_red s hf.2 h2, shaped_of hf.1, shaped_of hf.2, ?_⟩
    rw [eqv_eq 60 60 d1 d2 hf.1 hf.2]
    exact q _ I H (.refl s) .ofbl
  · cases e
theorem g_ne (hK : T.K = X.K) : G2 T (rNeD X.K) neD := by
  intro I H d1 d2 d v1 v2 Q s h1 h2 e q
  unfold neD at e
  split at e
  · rename_i hf
    cases e
    simp only [Bool.and_eq_true] at hf
    refine ⟨toP d1, toP d2, by rw [← hK]; exact dp_red s hf.1 h1, by rw [← hK]; exact dp_red s hf.2 h2, shaped_of hf.1, shaped_of hf.2, ?_⟩
    rw [eqv_eq 60 60 d1 d2 hf.1 hf.2]
    exact q _ I H (.refl s) .ofbl
  · cases e
theorem de_eq {k : Nat} (hr : Room k X.A) (ha : DE T X E a fa) (hb : DE T X E b fb) (hK : T.K = X.K := by rfl) : DE T X E (.Compare a [.Eq] [b] pos) (op2F eqD fa fb) := de_cmp (op_eqD hr.units) (g_eq hK) ha hb (nomark _)
theorem dt_eq {k : Nat} (hr : Room k X.A) (ha : DE T X E a fa) (hb : DE T X E b fb) (hK : T.K = X.K := by rfl) : DT T X E (.Compare a [.Eq] [b] pos) (boolF (op2F eqD fa fb)) := dt_cmp (op_eqD hr.units) (g_eq hK) ha hb (nomark _)
theorem de_ne {k : Nat} (hr : Room k X.A) (ha : DE T X E a fa) (hb : DE T X E b fb) (hK : T.K = X.K := by rfl) : DE T X E (.Compare a [.NotEq] [b] pos) (op2F neD fa fb) := de_cmp (op_neD hr.units) (g_ne hK) ha hb (nomark _)
theorem dt_ne {k : Nat} (hr : Room k X.A) (ha : DE T X E a fa) (hb : DE T X E b fb) (hK : T.K = X.K := by rfl) : DT T X E (.Compare a [.NotEq] [b] pos) (boolF (op2F neD fa fb)) := dt_cmp (op_neD hr.units) (g_ne hK) ha hb (nomark _)
end
end DE
set_option Elab.async false
set_option linter.all false
set_option maxRecDepth 100000
set_option maxHeartbeats 2000000
namespace DE
open PySem PySem.Spec PyProof.Rows L2

/-! ### order -/
theorem lt_map : ∀ (a b : List Ch), (a.map Fin.val < b.map Fin.val) ↔ a < b
  | [], [] => by simp
  | [], b :: bs => by simp
  | a :: as, [] => by simp
  | a :: as, b :: bs => by
    simp only [List.map_cons, List.cons_lt_cons_iff, lt_map as bs]
    constructor
    · rintro (h | ⟨h, h2⟩)
      · exact .inl h
      · exact .inr ⟨Fin.ext h, h2⟩
    · rintro (h | ⟨h, h2⟩)
      · exact .inl h
      · exact .inr ⟨by rw [h], h2⟩
def ltD : D → D → Option D
  | .int i, .int j => some (.bl (decide (i < j)))
  | .str a, .str b => some (.bl (decide (a < b)))
  | _, _ => none
def leD : D → D → Option D
  | .int i, .int j => some (.bl (decide (i ≤ j)))
  | .str a, .str b => some (.bl (!decide (b < a)))
  | _, _ => none
def gtD (a b : D) : Option D := ltD b a
def geD (a b : D) : Option D := leD b a
abbrev rBS (p : List Nat → List Nat → Bool) : R2 := fun x y H Q => ∃ i j, x = .str i ∧ y = .str j ∧ Q (.bl (p i.cps.toList j.cps.toList)) H
section
variable {T : Ctx} {X : Cx} {E : XK} {a b : Expr} {fa fb : FE} {pos : Pos}
theorem dec_lt (a b : List Ch) : decide ((mkS a).cps.toList < (mkS b).cps.toList) = decide (a < b) := by
  rw [mkS_cps, mkS_cps]
  exact decide_eq_decide.mpr (lt_map a b)
theorem op_ltA : OpR X (compareOp .Lt) (fun x y H Q => rI0 (fun i j => .bl (decide (i < j))) x y H Q ∨ ∃ i j, x = .str i ∧ y = .str j ∧ Q (.bl (decide (i.cps.toList < j.cps.toList))) H) := op_lt.or op_lt_str
theorem op_leA : OpR X (compareOp .LtE) (fun x y H Q => rI0 (fun i j => .bl (decide (i ≤ j))) x y H Q ∨ ∃ i j, x = .str i ∧ y = .str j ∧ Q (.bl (!decide (j.cps.toList < i.cps.toList))) H) := op_le.or op_le_str
theorem op_gtA : OpR X (compareOp .Gt) (fun x y H Q => rI0 (fun i j => .bl (decide (j < i))) x y H Q ∨ ∃ i j, x = .str i ∧ y = .str j ∧ Q (.bl (decide (j.cps.toList < i.cps.toList))) H) := op_gt.or op_gt_str
theorem op_geA : OpR X (compareOp .GtE) (fun x y H Q => rI0 (fun i j => .bl (decide (j ≤ i))) x y H Q ∨ ∃ i j, x = .str i ∧ y = .str j ∧ Q (.bl (!decide (i.cps.toList < j.cps.toList))) H) := op_ge.or op_ge_str
theorem g_lt : G2 T (fun x y H Q => rI0 (fun i j => .bl (decide (i < j))) x y H Q ∨ ∃ i j, x = .str i ∧ y = .str j ∧ Q (.bl (decide (i.cps.toList < j.cps.toList))) H) ltD := by
  intro I H d1 d2 d v1 v2 Q s h1 h2 e q
  unfold ltD at e
  split at e
  · cases e
    rw [h1.int_inv, h2.int_inv]
    exact .inl ⟨_, _, rfl, rfl, q _ I H (.refl s) .ofbl⟩
  · cases e
    rw [h1.str_inv, h2.str_inv]
    exact .inr ⟨_, _, rfl, rfl, by rw [dec_lt]; exact q _ I H (.refl s) .ofbl⟩
  · cases e
theorem g_le : G2 T (fun x y H Q => rI0 (fun i j => .bl (decide (i ≤ j))) x y H Q ∨ ∃ i j, x = .str i ∧ y = .str j ∧ Q (.bl (!decide (j.cps.toList < i.cps.toList))) H) leD := by
  intro I H d1 d2 d v1 v2 Q s h1 h2 e q
  unfold leD at e
  split at e
  · cases e
    rw [h1.int_inv, h2.int_inv]
    exact .inl ⟨_, _, rfl, rfl, q _ I H (.refl s) .ofbl⟩
  · cases e
    rw [h1.str_inv, h2.str_inv]
    exact .inr ⟨_, _, rfl, rfl, by rw [dec_lt]; exact q _ I H (.refl s) .ofbl⟩
  · cases e
theorem g_gt : G2 T (fun x y H Q => rI0 (fun i j => .bl (decide (j < i))) x y H Q ∨ ∃ i j, x = .str i ∧ y = .str j ∧ Q (.bl (decide (j.cps.toList < i.cps.toList))) H) gtD := by
  intro I H d1 d2 d v1 v2 Q s h1 h2 e q
  unfold gtD ltD at e
  split at e
  · cases e
    rw [h1.int_inv, h2.int_inv]
    exact .inl ⟨_, _, rfl, rfl, q _ I H (.refl s) .ofbl⟩
  · cases e
    rw [h1.str_inv, h2.str_inv]
    exact .inr ⟨_, _, rfl, rfl, by rw [dec_lt]; exact q _ I H (.refl s) .ofbl⟩
  · cases e
theorem g_ge : G2 T (fun x y H Q => rI0 (fun i j => .bl (decide (j ≤ i))) x y H Q ∨ ∃ i j, x = .str i ∧ y = .str j ∧ Q (.bl (!decide (i.cps.toList < j.cps.toList))) H) geD := by
  intro I H d1 d2 d v1 v2 Q s h1 h2 e q
  unfold geD leD at e
  split at e
  · cases e
    rw [h1.int_inv, h2.int_inv]
    exact .inl ⟨_, _, rfl, rfl, q _ I H (.refl s) .ofbl⟩
  · cases e
    rw [h1.str_inv, h2.str_inv]
    exact .inr ⟨_, _, rfl, rfl, by rw [dec_lt]; exact q _ I H (.refl s) .ofbl⟩
  · cases e
theorem de_lt (ha : DE T X E a fa) (hb : DE T X E b fb) : DE T X E (.Compare a [.Lt] [b] pos) (op2F ltD fa fb) := de_cmp op_ltA g_lt ha hb (nomark _)
theorem dt_lt (ha : DE T X E a fa) (hb : DE T X E b fb) : DT T X E (.Compare a [.Lt] [b] pos) (boolF (op2F ltD fa fb)) := dt_cmp op_ltA g_lt ha hb (nomark _)
theorem de_le (ha : DE T X E a fa) (hb : DE T X E b fb) : DE T X E (.Compare a [.LtE] [b] pos) (op2F leD fa fb) := de_cmp op_leA g_le ha hb (nomark _)
theorem dt_le (ha : DE T X E a fa) (hb : DE T X E b fb) : DT T X E (.Compare a [.LtE] [b] pos) (boolF (op2F leD fa fb)) := dt_cmp op_leA g_le ha hb (nomark _)
theorem de_gt (ha : DE T X E a fa) (hb : DE T X E b fb) : DE T X E (.Compare a [.Gt] [b] pos) (op2F gtD fa fb) := de_cmp op_gtA g_gt ha hb (nomark _)
theorem dt_gt (ha : DE T X E a fa) (hb : DE T X E b fb) : DT T X E (.Compare a [.Gt] [b] pos) (boolF (op2F gtD fa fb)) := dt_cmp op_gtA g_gt ha hb (nomark _)
theorem de_ge (ha : DE T X E a fa) (hb : DE T X E b fb) : DE T X E (.Compare a [.GtE] [b] pos) (op2F geD fa fb) := de_cmp op_geA g_ge ha hb (nomark _)
theorem dt_ge (ha : DE T X E a fa) (hb : DE T X E b fb) : DT T X E (.Compare a [.GtE] [b] pos) (boolF (op2F geD fa fb)) := dt_cmp op_geA g_ge ha hb (nomark _)

/-! ### a <= b <= c -/
def chainF (g g' : D → D → Option D) (fa fb fc : FE) : FE := fun δ => do
  let (r1, δ1) ← fa δ
  let (r2, δ2) ← fb δ1
  let d1 ← res δ2 r1
  let d2 ← res δ2 r2
  let d ← ofO (g d1 d2)
  match d with
  | .bl true => do
    let (r3, δ3) ← fc δ2
    let e2 ← res δ3 r2
    let e3 ← res δ3 r3
    let e ← ofO (g' e2 e3)
    pure (.imm e, δ3)
  | .bl false => pure (.imm (.bl false), δ2)
  | _ => .stuck
theorem de_chain {c : Expr} {fc : FE} {op op' : CmpOp} {r r' : R2} {g g' : D → D → Option D} (ho : OpR X (compareOp op) r) (ho' : OpR X (compareOp op') r') (hg : G2 T r g) (hg' : G2 T r' g') (ha : DE T X E a fa) (hb : DE T X E b fb) (hc : DE T X E c fc)
    (hm : lastMarks [op, op'] [b, c] = false := by with_unfolding_all rfl) : DE T X E (.Compare a [op, op'] [b, c] pos) (chainF g g' fa fb fc) :=
  PE.of (pe_chain ho ho' ha hb hc hm) fun σ H Q ⟨M, A, I, δ, ok, w⟩ => by
    refine ⟨M, A, I, δ, ok, w.bind.imp fun (r1, δ1) e1 w1 v1 I1 H1 ok1 st1 rr1 => ?_⟩
    refine ⟨M, A, I1, δ1, ok1, w1.bind.imp fun (r2, δ2) e2 w2 v2 I2 H2 ok2 st2 rr2 => ?_⟩
    replace w2 : Wants T M E (res δ2 r1 >>= fun d1 => res δ2 r2 >>= fun d2 => ofO (g d1 d2) >>= fun d => match d with
      | .bl true => fc δ2 >>= fun z => res z.2 r2 >>= fun e2 => res z.2 z.1 >>= fun e3 => ofO (g' e2 e3) >>= fun e => pure (R.imm e, z.2)
      | .bl false => pure (R.imm (.bl false), δ2)
      | _ => .stuck) _ := w2
    cases q1 : res δ2 r1 with
    | stuck => rw [q1] at w2; exact w2.elim
    | exc x => exact (res_exc q1).elim
    | ok d1 =>
      rw [q1] at w2
      cases q2 : res δ2 r2 with
      | stuck => simp only [ok_bind, q2] at w2; exact w2.elim
      | exc x => exact (res_exc q2).elim
      | ok d2 =>
        simp only [ok_bind, q2] at w2
        cases q3 : g d1 d2 with
        | none => rw [q3] at w2; exact w2.elim
        | some d =>
          rw [q3] at w2
          refine hg ok2.sub (ok2.red (rr1.mono st2.gro) q1) (ok2.red rr2 q2) q3 fun v I3 H3 n rv => ?_
          have ok3 := ok2.new n
          have st3 := (st1.trans st2).trans (n.stp (δ := δ2) (A := A))
          simp only [ofO_some, ok_bind] at w2
          cases d with
          | bl k =>
            refine ⟨k, rv.bl_inv, ?_⟩
            cases k with
            | false => exact iteF (w2 _ I3 H3 ok3 st3 (.of .ofbl))
            | true =>
              refine iteT ⟨M, A, I3, δ2, ok3, w2.bind.imp fun (r3, δ3) e3 w3 v3 I4 H4 ok4 st4 rr3 => ?_⟩
              replace w3 : Wants T M E (res δ3 r2 >>= fun e2 => res δ3 r3 >>= fun e3 => ofO (g' e2 e3) >>= fun e => pure (R.imm e, δ3)) _ := w3
              cases q4 : res δ3 r2 with
              | stuck => rw [q4] at w3; exact w3.elim
              | exc x => exact (res_exc q4).elim
              | ok b2 =>
                rw [q4] at w3
                cases q5 : res δ3 r3 with
                | stuck => simp only [ok_bind, q5] at w3; exact w3.elim
                | exc x => exact (res_exc q5).elim
                | ok b3 =>
                  simp only [ok_bind, q5] at w3
                  cases q6 : g' b2 b3 with
                  | none => rw [q6] at w3; exact w3.elim
                  | some e =>
                    rw [q6] at w3
                    refine hg' ok4.sub (ok4.red ((rr2.mono n.gro).mono st4.gro) q4) (ok4.red rr3 q5) q6 fun v' I5 H5 n5 rv5 => ?_
                    exact w3 v' I5 H5 (ok4.new n5) ((st3.trans st4).trans n5.stp) rv5
          | _ => exact w2.elim
end

/-! ### in -/
def inD : D → D → Option D
  | .str [c], .str z => some (.bl (decide (c ∈ z)))
  | x, .lst xs => if D.flat 60 x && D.flat 60 (.lst xs) then some (.bl (xs.any fun y => D.eqb y x)) else none
  | .str a, .tup xs => if xs.all (fun y => match y with | .str _ => true | _ => false) then some (.bl (xs.any fun y => D.eqb y (.str a))) else none
  | _, _ => none
def notinD (a b : D) : Option D := (inD a b).bind fun d => match d with
  | .bl k => some (.bl (!k))
  | _ => none
theorem toPs_map : ∀ xs : List D, toPs xs = xs.map toP
  | [] => by simp [toPs]
  | x :: xs => by simp [toPs, toPs_map xs]
theorem flats_all : ∀ (n : Nat) (xs : List D), flats n xs = xs.all (D.flat n)
  | _, [] => by simp [flats]
  | n, x :: xs => by simp [flats, flats_all n xs]
section
variable {T : Ctx} {X : Cx} {E : XK} {a b : Expr} {fa fb : FE} {pos : Pos}
def rInAll (K : PySem.W.Frag) : R2 := fun x y H Q => (∃ (c : Nat) (z : Str), x = .str ⟨#[c]⟩ ∧ y = .str z ∧ Q (.bl (decide (c ∈ z.cps.toList))) H) ∨ (rInD K x y H Q ∨ rIn K false x y H Q)
def rNotInAll (K : PySem.W.Frag) : R2 := fun x y H Q => (∃ (c : Nat) (z : Str), x = .str ⟨#[c]⟩ ∧ y = .str z ∧ Q (.bl (!decide (c ∈ z.cps.toList))) H) ∨ (rNotInD K x y H Q ∨ rIn K true x y H Q)
theorem op_inAll (hu : X.A.units + 65 < cLine) : OpR X (compareOp .In) (rInAll X.K) := op_in_sign.or ((op_inD hu).or op_in_seq)
theorem op_notInAll (hu : X.A.units + 65 < cLine) : OpR X (compareOp .NotIn) (rNotInAll X.K) := op_notIn_sign.or ((op_notInD hu).or op_notIn_seq)
theorem mem_val (c : Ch) (z : List Ch) : decide (c.val ∈ (mkS z).cps.toList) = decide (c ∈ z) := by
  rw [mkS_cps]
  refine decide_eq_decide.mpr ⟨fun h => ?_, fun h => List.mem_map_of_mem h⟩
  obtain ⟨d, h1, h2⟩ := List.mem_map.mp h
  have e : d = c := Fin.ext h2
  rw [← e]
  exact h1
theorem any_eqv {x : D} {xs : List D} (h1 : D.flat 60 x = true) (h2 : ∀ y ∈ xs, D.flat 59 y = true) : ((toPs xs).any fun z => PyData.eqv z (toP x)) = xs.any fun y => D.eqb y x := by
  rw [toPs_map, List.any_map]
  induction xs with
  | nil => rfl
  | cons y ys ih =>
    simp only [List.any_cons, Function.comp, eqv_eq 59 60 y x (h2 y List.mem_cons_self) h1]
    rw [← ih fun z hz => h2 z (List.mem_cons_of_mem _ hz)]
theorem str_only {xs : List D} (h : (xs.all (fun y => match y with | .str _ => true | _ => false)) = true) : ∃ ss : List (List Ch), xs = ss.map .str := by
  induction xs with
  | nil => exact ⟨[], rfl⟩
  | cons x xs ih =>
    simp only [List.all_cons, Bool.and_eq_true] at h
    obtain ⟨ss, e⟩ := ih h.2
    cases x with
    | str s => exact ⟨s :: ss, by rw [e]; rfl⟩
    | _ => cases h.1
theorem reps_strs {I : Hp} : ∀ {ss : List (List Ch)} {vs : List V}, Reps T I (ss.map .str) vs → vs = ss.map fun s => V.str (mkS s)
  | [], vs, r => r.nil_inv
  | s :: ss, vs, r => by
    obtain ⟨v, ws, rfl, r1, r2⟩ := r.cons_inv
    rw [r1.str_inv, reps_strs r2]
    rfl
theorem inV_strs (a : List Ch) (ss : List (List Ch)) : inV (V.str (mkS a)) (ss.map fun s => V.str (mkS s)) = (ss.map D.str).any fun y => D.eqb y (.str a) := by
  unfold inV
  rw [List.any_map, List.any_map]
  congr 1
  funext s
  show eqV (V.str (mkS s)) (V.str (mkS a)) = D.eqb (.str s) (.str a)
  simp only [eqV, D.eqb]
  rw [Bool.eq_iff_iff]
  simp [mkS_eq]
theorem flatV_strs (ss : List (List Ch)) : (ss.map fun s => V.str (mkS s)).all flatV = true := by
  rw [List.all_map, List.all_eq_true]
  intro s _
  rfl
theorem g_in (hK : T.K = X.K) : G2 T (rInAll X.K) inD := by
  intro I H d1 d2 d v1 v2 Q s h1 h2 e q
  unfold inD at e
  split at e
  · rename_i c z
    cases e
    rw [h1.str_inv, h2.str_inv]
    refine .inl ⟨c.val, mkS z, rfl, rfl, ?_⟩
    rw [mem_val]
    exact q _ I H (.refl s) .ofbl
  · rename_i xs
    split at e
    · rename_i hf
      cases e
      simp only [Bool.and_eq_true] at hf
      have hd := dp_red s hf.2 h2
      rw [toP] at hd
      refine .inr (.inl ⟨toP d1, toPs xs, by rw [← hK]; exact dp_red s hf.1 h1, by rw [← hK]; exact hd, shaped_of hf.1, by have := shaped_of hf.2; rw [toP] at this; exact this, ?_⟩)
      rw [any_eqv hf.1 (by
        have := hf.2
        simp only [D.flat, flats_all, List.all_eq_true] at this
        exact this)]
      exact q _ I H (.refl s) .ofbl
    · cases e
  · rename_i a xs _ _
    split at e
    · rename_i hf
      cases e
      obtain ⟨ss, rfl⟩ := str_only hf
      obtain ⟨p, ys, rfl, hq, r⟩ := h2.tup_inv s
      rw [reps_strs r] at hq
      rw [h1.str_inv]
      refine .inr (.inr ⟨p, _, rfl, .inr (by rw [← hK]; exact hq), rfl, flatV_strs ss, ?_⟩)
      rw [if_neg Bool.false_ne_true, inV_strs]
      exact q _ I H (.refl s) .ofbl
    · cases e
  · cases e
theorem g_notin (hK : T.K = X.K) : G2 T (rNotInAll X.K) notinD := by
  intro I H d1 d2 d v1 v2 Q s h1 h2 e q
  unfold notinD inD at e
  split at e
  · rename_i c z
    simp only [Option.bind_some] at e
    cases e
    rw [h1.str_inv, h2.str_inv]
    refine .inl ⟨c.val, mkS z, rfl, rfl, ?_⟩
    rw [mem_val]
    exact q _ I H (.refl s) .ofbl
  · rename_i xs
    split at e
    · rename_i hf
      simp only [Option.bind_some] at e
      cases e
      simp only [Bool.and_eq_true] at hf
      have hd := dp_red s hf.2 h2
      rw [toP] at hd
      refine .inr (.inl ⟨toP d1, toPs xs, by rw [← hK]; exact dp_red s hf.1 h1, by rw [← hK]; exact hd, shaped_of hf.1, by have := shaped_of hf.2; rw [toP] at this; exact this, ?_⟩)
      rw [any_eqv hf.1 (by
        have := hf.2
        simp only [D.flat, flats_all, List.all_eq_true] at this
        exact this)]
      exact q _ I H (.refl s) .ofbl
    · cases e
  · rename_i a xs _ _
    split at e
    · rename_i hf
      simp only [Option.bind_some] at e
      cases e
      obtain ⟨ss, rfl⟩ := str_only hf
      obtain ⟨p, ys, rfl, hq, r⟩ := h2.tup_inv s
      rw [reps_strs r] at hq
      rw [h1.str_inv]
      refine .inr (.inr ⟨p, _, rfl, .inr (by rw [← hK]; exact hq), rfl, flatV_strs ss, ?_⟩)
      rw [if_pos rfl, inV_strs]
      exact q _ I H (.refl s) .ofbl
    · cases e
  · cases e
theorem units65 {k : Nat} {A : Around} (r : Room k A) : A.units + 65 < cLine := by have := r.un; omega
theorem de_in {k : Nat} (hr : Room k X.A) (ha : DE T X E a fa) (hb : DE T X E b fb) (hm : behindInMarks .In b = false := by rfl) (hK : T.K = X.K := by rfl) : DE T X E (.Compare a [.In] [b] pos) (op2F inD fa fb) := de_cmp (op_inAll (units65 hr)) (g_in hK) ha hb hm
theorem dt_in {k : Nat} (hr : Room k X.A) (ha : DE T X E a fa) (hb : DE T X E b fb) (hm : behindInMarks .In b = false := by rfl) (hK : T.K = X.K := by rfl) : DT T X E (.Compare a [.In] [b] pos) (boolF (op2F inD fa fb)) := dt_cmp (op_inAll (units65 hr)) (g_in hK) ha hb hm
theorem de_notin {k : Nat} (hr : Room k X.A) (ha : DE T X E a fa) (hb : DE T X E b fb) (hm : behindInMarks .NotIn b = false := by rfl) (hK : T.K = X.K := by rfl) : DE T X E (.Compare a [.NotIn] [b] pos) (op2F notinD fa fb) := de_cmp (op_notInAll (units65 hr)) (g_notin hK) ha hb hm
theorem dt_notin {k : Nat} (hr : Room k X.A) (ha : DE T X E a fa) (hb : DE T X E b fb) (hm : behindInMarks .NotIn b = false := by rfl) (hK : T.K = X.K := by rfl) : DT T X E (.Compare a [.NotIn] [b] pos) (boolF (op2F notinD fa fb)) := dt_cmp (op_notInAll (units65 hr)) (g_notin hK) ha hb hm

/-! ### is None -/
def isNon : D → Bool
  | .non => true
  | _ => false
def isND (d : D) : Option D := some (.bl (isNon d))
def isNF (f : FE) : FE := op1F isND f
theorem red_non {I H : Hp} {d : D} {v : V} (h : Red T I H d v) (hd : d ≠ .undef) : decide (v = .non) = isNon d := by
  cases d with
  | non => rw [h.non_inv]; rfl
  | bl b => rw [h.bl_inv]; rfl
  | int b => rw [h.int_inv]; rfl
  | str b => rw [h.str_inv]; rfl
  | undef => exact absurd rfl hd
  | tup xs =>
    rcases h with h | ⟨p, rfl, _⟩
    · obtain ⟨a, _, rfl, _⟩ := h.tup_inv; rfl
    · rfl
  | lst xs =>
    rcases h with h | ⟨p, rfl, _⟩
    · obtain ⟨a, _, rfl, _⟩ := h.lst_inv; rfl
    · rfl
  | frl xs =>
    rcases h with h | ⟨p, rfl, _⟩
    · obtain ⟨a, _, rfl, _⟩ := h.frl_inv; rfl
    · rfl
  | dk ks xs =>
    rcases h with h | ⟨p, rfl, _⟩
    · obtain ⟨a, _, _, rfl, _⟩ := h.dk_inv; rfl
    · rfl
  | obj c fs =>
    rcases h with h | ⟨p, rfl, _⟩
    · obtain ⟨a, _, _, rfl, _⟩ := h.obj_inv; rfl
    · rfl
  | kls c =>
    rcases h with h | ⟨p, rfl, _⟩
    · simp only [Rep] at h
      rw [h]
      rfl
    · rfl
theorem red_def {I H : Hp} {v : V} (h : Red T I H .undef v) : False := by
  rcases h with h | ⟨p, _, h⟩
  · simp only [Rep] at h
  · exact h
end
end DE
set_option Elab.async false
set_option linter.all false
set_option maxRecDepth 100000
set_option maxHeartbeats 2000000
namespace DE
open PySem PySem.Spec PyProof.Rows L2

/-! ### a list, a tuple or a text that is drawn from -/
inductive Sc where
  | lst (l : Addr) (xs : List V)
  | tup (l : Addr) (xs : List V)
  | txt (z : Str) (t : Tok)
def Sc.okH (K : PySem.W.Frag) (H : Hp) : Sc → Prop
  | .lst l xs => SqL K H l xs
  | .tup l xs => SqT K H l xs
  | .txt _ _ => True
def Sc.val : Sc → Value
  | .lst l _ => .ref l
  | .tup l _ => .ref l
  | .txt z t => .str z t
def Sc.nth : Sc → Nat → Option V
  | .lst _ xs, i => xs[i]?
  | .tup _ xs, i => xs[i]?
  | .txt z _, i => z.cps[i]?.map fun c => .str ⟨#[c]⟩
def Sc.len : Sc → Nat
  | .lst _ xs => xs.length
  | .tup _ xs => xs.length
  | .txt z _ => z.cps.size
def Sc.obj : Sc → Obj
  | .lst l _ => { cls := .type "list_iterator", data := .fields #[.ref l, .int 0 0] }
  | .tup l _ => { cls := .type "tuple_iterator", data := .fields #[.ref l, .int 0 0] }
  | .txt z t => { cls := .type (strIterType z), data := .fields #[.str z t, .int 0 0] }
def Sc.it (it : Addr) (i : Nat) (h : Heap) : Sc → Prop
  | .lst l _ => h.IsListIter it l i
  | .tup l _ => h.IsTupleIter it l i
  | .txt z t => h.IsStrIter it (strIterType z) z t i
def Sc.adr : Sc → Option Addr
  | .lst l _ => some l
  | .tup l _ => some l
  | .txt _ _ => none
section
variable {X : Cx} {pins : List (Addr × Obj)} {σ : L2.St} {H : Hp} {s : Shared}
theorem Sc.it_rec {sc : Sc} {it : Addr} {i : Nat} {h : Heap} (x : sc.it it i h) : ∃ o, h.get? it = some o ∧ ∀ v, o.data ≠ .cell v := by
  cases sc with
  | lst l xs => obtain ⟨o, h1, _, h2⟩ := x; exact ⟨o, h1, fun v z => by rw [h2] at z; cases z⟩
  | tup l xs => obtain ⟨o, h1, _, h2⟩ := x; exact ⟨o, h1, fun v z => by rw [h2] at z; cases z⟩
  | txt z t => obtain ⟨o, h1, _, h2⟩ := x; exact ⟨o, h1, fun v z => by rw [h2] at z; cases z⟩
theorem Sc.it_keep {sc : Sc} {it : Addr} {i : Nat} {h h' : Heap} (x : sc.it it i h) (k : ∀ o, h.get? it = some o → h'.get? it = some o) : sc.it it i h' := by
  cases sc with
  | lst l xs => obtain ⟨o, h1, h2⟩ := x; exact ⟨o, k _ h1, h2⟩
  | tup l xs => obtain ⟨o, h1, h2⟩ := x; exact ⟨o, k _ h1, h2⟩
  | txt z t => obtain ⟨o, h1, h2⟩ := x; exact ⟨o, k _ h1, h2⟩
/-- our own new records are not what is drawn from -/
theorem Sc.apart {sc : Sc} (I : Inv X pins σ H s) (ok : sc.okH X.K H) {b : Addr} (hf : FpOk X pins H b) : sc.adr ≠ some b := fun e => by
  have nb : ∀ o, X.K.lookup b = some o → False := fun o hk => by
    have hb := I.ok.mod.kin b o hk
    rcases hf.2.2.2.1 with z | z
    · exact I.ok.noex b o hb z
    · exact absurd (Nat.lt_of_lt_of_le (Heap.lt_size hb) (Nat.le_trans I.ok.bsz z)) (Nat.lt_irrefl _)
  cases sc with
  | lst l xs =>
    cases e
    rcases ok with (h | ⟨o, h⟩) | ⟨o, _, _, h, _⟩
    · rw [hf.1] at h; cases h
    · rw [hf.1] at h; cases h
    · exact nb _ h
  | tup l xs =>
    cases e
    rcases ok with (h | ⟨o, h⟩) | ⟨o, _, _, h, _⟩
    · rw [hf.1] at h; cases h
    · rw [hf.1] at h; cases h
    · exact nb _ h
  | txt z t => cases e
theorem Sc.draw {sc : Sc} (I : Inv X pins σ H s) (ok : sc.okH X.K H) {A : Around} (hh : A.handled = none) {it : Addr} (hne : sc.adr ≠ some it) :
    ∃ (fp : List Addr) (Pd : Nat → Value → Prop) (St : Nat → Heap → Prop), Draws X.prog X.w A it fp sc.len Pd St ∧ it ∈ fp ∧ (∀ b ∈ fp, b = it ∨ sc.adr = some b) ∧ (∀ i, sc.it it i s.heap → St i s.heap) ∧
      (∀ i h, St i h → sc.it it i h) ∧ ∀ i v, Pd i v → ∃ x, sc.nth i = some x ∧ RelV x v := by
  cases sc with
  | lst l xs =>
    obtain ⟨its, rv, p, hz⟩ := I.list ok
    have hn : l ≠ it := fun e => hne (by rw [e]; rfl)
    have hl : xs.length = its.toArray.size := by rw [rv.length]; simp
    refine ⟨[it, l], fun i v => its.toArray[i]? = some v, fun i h => h.IsListIter it l i ∧ h.IsList l its.toArray, by rw [show (Sc.lst l xs).len = its.toArray.size from hl]; exact Draws.list hh it l hn its.toArray, by simp, fun b hb => ?_, fun i h => ⟨h, p.isList⟩, fun i h (st : _ ∧ _) => st.1, fun i v e => ?_⟩
    · have : b = it ∨ b = l := by simpa using hb
      rcases this with e | e
      · exact .inl e
      · exact .inr (by rw [e]; rfl)
    · have e : its[i]? = some v := by simpa using e
      have hi : i < xs.length := by
        by_cases h : i < xs.length
        · exact h
        · rw [List.getElem?_eq_none (by rw [← rv.length]; omega)] at e
          cases e
      obtain ⟨u, hu, ru⟩ := rv.get (List.getElem?_eq_getElem hi)
      rw [e] at hu
      cases hu
      exact ⟨_, List.getElem?_eq_getElem hi, ru⟩
  | tup l xs =>
    obtain ⟨its, rv, p, hz⟩ := I.tuple ok
    have hn : l ≠ it := fun e => hne (by rw [e]; rfl)
    have hl : xs.length = its.toArray.size := by rw [rv.length]; simp
    have p' : s.heap.IsTuple l its.toArray := p
    refine ⟨[it, l], fun i v => its.toArray[i]? = some v, fun i h => h.IsTupleIter it l i ∧ h.IsTuple l its.toArray, by rw [show (Sc.tup l xs).len = its.toArray.size from hl]; exact Draws.tuple hh it l hn its.toArray, by simp, fun b hb => ?_, fun i h => ⟨h, p'⟩, fun i h (st : _ ∧ _) => st.1, fun i v e => ?_⟩
    · have : b = it ∨ b = l := by simpa using hb
      rcases this with e | e
      · exact .inl e
      · exact .inr (by rw [e]; rfl)
    · have e : its[i]? = some v := by simpa using e
      have hi : i < xs.length := by
        by_cases h : i < xs.length
        · exact h
        · rw [List.getElem?_eq_none (by rw [← rv.length]; omega)] at e
          cases e
      obtain ⟨u, hu, ru⟩ := rv.get (List.getElem?_eq_getElem hi)
      rw [e] at hu
      cases hu
      exact ⟨_, List.getElem?_eq_getElem hi, ru⟩
  | txt z t =>
    refine ⟨_, _, _, Draws.text hh it z t, by simp, fun b hb => .inl (by simpa using hb), fun i h => h, fun i h st => st, fun i v e => ?_⟩
    obtain ⟨c, u, h1, h2⟩ := e
    exact ⟨_, by show z.cps[i]?.map _ = _; rw [h1]; rfl, by rw [h2]; exact ⟨u, rfl⟩⟩
theorem Sc.begins {sc : Sc} (I : Inv X pins σ H s) (ok : sc.okH X.K H) : ∃ Hb : Heap → Prop, Begins sc.val sc.obj Hb ∧ Hb s.heap := by
  cases sc with
  | lst l xs =>
    obtain ⟨its, rv, p, hz⟩ := I.list ok
    exact ⟨_, begins_list l its.toArray, p.isList⟩
  | tup l xs =>
    obtain ⟨its, rv, p, hz⟩ := I.tuple ok
    exact ⟨_, begins_tuple l its.toArray, show s.heap.IsTuple l its.toArray from p⟩
  | txt z t => exact ⟨_, begins_text z t, trivial⟩
theorem Sc.it_new {sc : Sc} {it : Addr} {h : Heap} (e : h.get? it = some sc.obj) : sc.it it 0 h := by
  cases sc with
  | lst l xs => exact ⟨_, e, rfl, rfl⟩
  | tup l xs => exact ⟨_, e, rfl, rfl⟩
  | txt z t => exact ⟨_, e, rfl, rfl⟩
end

/-! ### pairs made of what is drawn -/
/-- new pairs of the i-th of fa and of fb, n of them, while G stands -/
def ItP (fa fb : Nat → Option V) (n : Nat) (G : Hp → Prop) : It :=
  ⟨fun i H => i < n ∧ G H, fun i H v H' => ∃ T x y, v = .ref T ∧ H T = none ∧ H' = upd H T (.tup [x, y]) ∧ fa i = some x ∧ fb i = some y, fun i H => i = n ∧ G H⟩
theorem new_pair {X : Cx} {pins : List (Addr × Obj)} {σ : L2.St} {H : Hp} {s : Shared} {h' : Heap} {tk : Nat} {ch : List Addr} {T : Addr} {x y : V} {u v : Value} (I : Inv X pins σ H s) (k : ∀ b o, b ∉ ch → s.heap.get? b = some o → h'.get? b = some o) (hf : ∀ b ∈ ch, FpOk X pins H b)
    (hT : s.heap.objs.size ≤ T) (ht : h'.IsTuple T #[u, v]) (rx : RelV x u) (ry : RelV y v) : Inv X pins σ (upd H T (.tup [x, y])) { s with heap := h', toks := tk } :=
  I.turnedNew k hf hT ⟨by show 2 ≤ sizeLine; decide, [u, v], .cons rx (.cons ry .nil), ht⟩
theorem turn_enumS {P : Program} {w : World} {K : PySem.W.Frag} {elts : List Expr} {kk : Nat} {tpos : Pos} (sc : Sc) (e it : Addr) :
    Turn P w K (.Tuple elts kk tpos) (ItP (fun i => some (.int (i : Nat))) sc.nth sc.len (sc.okH K)) [e, it] e (fun i h => (∃ old, IsEnum h e it ((0 : Int) + (i : Nat)) old) ∧ sc.it it i h ∧ e ≠ it) where
  mem := by simp
  obj := fun i h st b hb => by
    obtain ⟨⟨old, he⟩, hi, _⟩ := st
    have e' : b = e ∨ b = it := by simpa using hb
    rcases e' with z | z
    · rw [z]; exact ⟨_, he, fun v q => nomatch q⟩
    · rw [z]; exact Sc.it_rec hi
  keep := fun i h h' st k => let ⟨⟨old, he⟩, hi, hne⟩ := st; ⟨⟨old, k e (by simp) _ he⟩, Sc.it_keep hi fun o q => k it (by simp) o q, hne⟩
  item := by
    intro X hP hw hK hc i pins s σ H E I hf st hg
    subst hP hw hK
    obtain ⟨⟨old, he⟩, hit, hne⟩ := st
    obtain ⟨hi, hok⟩ := hg
    have hit1 := Sc.apart I hok (hf it (by simp))
    have he1 := Sc.apart I hok (hf e (by simp))
    obtain ⟨fp, Pd, Sd, D, hm, hfp, hs0, hs1, hv⟩ := Sc.draw I hok (A := X.A.in1) (I.ok.hd hc) hit1
    have hef : e ∉ fp := fun z => by
      rcases hfp e z with q | q
      · exact hne q
      · exact he1 q
    have Gn := GoesN.enumFrom (elts := elts) (x1 := kk) (pos := tpos) 0 D e hne hef hm
    refine wpAny_mono (Gn.goes i s (fun u s2 => ∃ x H', Inv X pins σ H' s2 ∧ RelV x u ∧ (ItP (fun i => some (.int (i : Nat))) sc.nth sc.len (sc.okH X.K)).yld i H x H' ∧ ((∃ old, IsEnum s2.heap e it ((0 : Int) + ((i + 1 : Nat) : Int)) old) ∧ sc.it it (i + 1) s2.heap ∧ e ≠ it) ∧ ∀ b ∈ [e, it], H' b = none) E hi ⟨⟨old, he⟩, hs0 i hit⟩ fun v h' tk hY st' hk htk => ?_) (fun r s1 h => h) fun _ _ h => h
    obtain ⟨T, t, x, rfl, hT, hPx, hTu⟩ := hY
    obtain ⟨y, hy, ry⟩ := hv i x hPx
    have I1 := new_pair (tk := tk) (x := .int (i : Nat)) I hk hf hT hTu ⟨t, by simp⟩ ry
    refine ⟨.ref T, _, I1, rfl, ⟨T, _, y, rfl, I.hok.fresh hT, rfl, rfl, hy⟩, ⟨st'.1, hs1 _ _ st'.2, hne⟩, fun b hb => ?_⟩
    have hb2 : b ≠ T := fun z => by
      obtain ⟨o, ho, _⟩ : ∃ o, s.heap.get? b = some o ∧ True := by
        have e' : b = e ∨ b = it := by simpa using hb
        rcases e' with q | q
        · rw [q]; exact ⟨_, he, trivial⟩
        · rw [q]; obtain ⟨o, ho, _⟩ := Sc.it_rec hit; exact ⟨o, ho, trivial⟩
      exact absurd (Nat.lt_of_lt_of_le (Heap.lt_size ho) (by rw [z]; exact hT)) (Nat.lt_irrefl _)
    rw [upd_ne hb2]
    exact (hf b hb).1
  done := by
    intro X hP hw hK hc i pins s σ H E I hf st hg
    subst hP hw hK
    obtain ⟨⟨old, he⟩, hit, hne⟩ := st
    obtain ⟨hi, hok⟩ := hg
    subst hi
    have hit1 := Sc.apart I hok (hf it (by simp))
    have he1 := Sc.apart I hok (hf e (by simp))
    obtain ⟨fp, Pd, Sd, D, hm, hfp, hs0, hs1, hv⟩ := Sc.draw I hok (A := X.A.in1) (I.ok.hd hc) hit1
    have hef : e ∉ fp := fun z => by
      rcases hfp e z with q | q
      · exact hne q
      · exact he1 q
    have Gn := GoesN.enumFrom (elts := elts) (x1 := kk) (pos := tpos) 0 D e hne hef hm
    exact Gn.stops s (fun s1 => Inv X pins σ H s1) E ⟨⟨old, he⟩, hs0 _ hit⟩ fun h' tk hk htk => I.turnedL hk hf
  self := fun A i s Q E st h => let ⟨⟨_, he⟩, _⟩ := st; wpAny_pyIter_enum he h
theorem turn_zipS {P : Program} {w : World} {K : PySem.W.Frag} {elts : List Expr} {kk : Nat} {tpos : Pos} (s1 s2 : Sc) (z TI TO i1 i2 : Addr) (hd : [z, TI, TO, i1, i2].Nodup) :
    Turn P w K (.Tuple elts kk tpos) (ItP s1.nth s2.nth (min s1.len s2.len) (fun H => s1.okH K H ∧ s2.okH K H)) [z, TI, TO, i1, i2] z
      (fun i h => IsZip h z TI TO .none ∧ IsTupOf2 h TI (.ref i1) (.ref i2) ∧ (∃ a1 a2, IsTupOf2 h TO a1 a2) ∧ s1.it i1 i h ∧ s2.it i2 i h) where
  mem := by simp
  obj := fun i h st b hb => by
    obtain ⟨h1, h2, ⟨a1, a2, h3⟩, h4, h5⟩ := st
    have e' : b = z ∨ b = TI ∨ b = TO ∨ b = i1 ∨ b = i2 := by simpa using hb
    rcases e' with q | q | q | q | q
    · rw [q]; exact ⟨_, h1, fun v q => nomatch q⟩
    · rw [q]; exact ⟨_, h2, fun v q => nomatch q⟩
    · rw [q]; exact ⟨_, h3, fun v q => nomatch q⟩
    · rw [q]; exact Sc.it_rec h4
    · rw [q]; exact Sc.it_rec h5
  keep := fun i h h' st k => by
    obtain ⟨h1, h2, ⟨a1, a2, h3⟩, h4, h5⟩ := st
    exact ⟨k z (by simp) _ h1, k TI (by simp) _ h2, ⟨a1, a2, k TO (by simp) _ h3⟩, Sc.it_keep h4 fun o q => k i1 (by simp) o q, Sc.it_keep h5 fun o q => k i2 (by simp) o q⟩
  item := by
    intro X hP hw hK hc i pins s σ H E I hf st hg
    subst hP hw hK
    obtain ⟨h1, h2, h3, h4, h5⟩ := st
    obtain ⟨hi, hok1, hok2⟩ := hg
    obtain ⟨fp1, P1, S1, D1, hm1, hfp1, hs10, hs11, hv1⟩ := Sc.draw I hok1 (A := X.A.in1) (I.ok.hd hc) (Sc.apart I hok1 (hf i1 (by simp)))
    obtain ⟨fp2, P2, S2, D2, hm2, hfp2, hs20, hs21, hv2⟩ := Sc.draw I hok2 (A := X.A.in1) (I.ok.hd hc) (Sc.apart I hok2 (hf i2 (by simp)))
    have no1 : ∀ b ∈ [z, TI, TO, i1, i2], b ≠ i1 → b ∉ fp1 := fun b hb hn q => by
      rcases hfp1 b q with w | w
      · exact hn w
      · exact Sc.apart I hok1 (hf b hb) w
    have no2 : ∀ b ∈ [z, TI, TO, i1, i2], b ≠ i2 → b ∉ fp2 := fun b hb hn q => by
      rcases hfp2 b q with w | w
      · exact hn w
      · exact Sc.apart I hok2 (hf b hb) w
    simp only [List.nodup_cons, List.mem_cons, List.not_mem_nil, or_false, not_or, List.nodup_nil, and_true, not_false_eq_true] at hd
    obtain ⟨⟨n1, n2, n3, n4⟩, ⟨n5, n6, n7⟩, ⟨n8, n9⟩, n10⟩ := hd
    have S : ZipSep2 z TI TO i1 i2 fp1 fp2 := ⟨Ne.symm n1, Ne.symm n2, n5, n6, hm1, no1 z (by simp) n3, no1 TO (by simp) n8, n7, hm2, no2 z (by simp) n4, no2 TO (by simp) n9, no2 i1 (by simp) n10, no1 i2 (by simp) (Ne.symm n10)⟩
    have Gn := GoesN.zip2 (elts := elts) (x1 := kk) (pos := tpos) S D1 D2
    have hwr : ∀ b ∈ [z, TO, i1, i2], b ∈ [z, TI, TO, i1, i2] := fun b hb => by
      simp only [List.mem_cons, List.not_mem_nil, or_false] at hb ⊢
      rcases hb with q | q | q | q
      · exact .inl q
      · exact .inr (.inr (.inl q))
      · exact .inr (.inr (.inr (.inl q)))
      · exact .inr (.inr (.inr (.inr q)))
    refine wpAny_mono (Gn.goes i s (fun u s2' => ∃ x H', Inv X pins σ H' s2' ∧ RelV x u ∧ (ItP s1.nth s2.nth (min s1.len s2.len) (fun H => s1.okH X.K H ∧ s2.okH X.K H)).yld i H x H' ∧ (IsZip s2'.heap z TI TO .none ∧ IsTupOf2 s2'.heap TI (.ref i1) (.ref i2) ∧ (∃ a1 a2, IsTupOf2 s2'.heap TO a1 a2) ∧ s1.it i1 (i + 1) s2'.heap ∧ s2.it i2 (i + 1) s2'.heap) ∧ ∀ b ∈ [z, TI, TO, i1, i2], H' b = none) E hi ⟨h1, h2, h3, hs10 i h4, hs20 i h5⟩ fun v h' tk hY st' hk htk => ?_) (fun r s1 h => h) fun _ _ h => h
    obtain ⟨T, x, y, rfl, hT, hPx, hPy, hTu⟩ := hY
    obtain ⟨x', hx', rx⟩ := hv1 i x hPx
    obtain ⟨y', hy', ry⟩ := hv2 i y hPy
    have I1 := new_pair (tk := tk) I (ch := [z, TO, i1, i2]) (fun b o hb e => hk b o hb e) (fun b hb => hf b (hwr b hb)) hT hTu rx ry
    refine ⟨.ref T, _, I1, rfl, ⟨T, x', y', rfl, I.hok.fresh hT, rfl, hx', hy'⟩, ⟨st'.1, st'.2.1, st'.2.2.1, hs11 _ _ st'.2.2.2.1, hs21 _ _ st'.2.2.2.2⟩, fun b hb => ?_⟩
    have hb2 : b ≠ T := fun w => by
      obtain ⟨o, ho⟩ : ∃ o, s.heap.get? b = some o := by
        have e' : b = z ∨ b = TI ∨ b = TO ∨ b = i1 ∨ b = i2 := by simpa using hb
        obtain ⟨a1, a2, h3⟩ := h3
        rcases e' with q | q | q | q | q
        · rw [q]; exact ⟨_, h1⟩
        · rw [q]; exact ⟨_, h2⟩
        · rw [q]; exact ⟨_, h3⟩
        · rw [q]; obtain ⟨o, ho, _⟩ := Sc.it_rec h4; exact ⟨o, ho⟩
        · rw [q]; obtain ⟨o, ho, _⟩ := Sc.it_rec h5; exact ⟨o, ho⟩
      exact absurd (Nat.lt_of_lt_of_le (Heap.lt_size ho) (by rw [w]; exact hT)) (Nat.lt_irrefl _)
    rw [upd_ne hb2]
    exact (hf b hb).1
  done := by
    intro X hP hw hK hc i pins s σ H E I hf st hg
    subst hP hw hK
    obtain ⟨h1, h2, h3, h4, h5⟩ := st
    obtain ⟨hi, hok1, hok2⟩ := hg
    subst hi
    obtain ⟨fp1, P1, S1, D1, hm1, hfp1, hs10, hs11, hv1⟩ := Sc.draw I hok1 (A := X.A.in1) (I.ok.hd hc) (Sc.apart I hok1 (hf i1 (by simp)))
    obtain ⟨fp2, P2, S2, D2, hm2, hfp2, hs20, hs21, hv2⟩ := Sc.draw I hok2 (A := X.A.in1) (I.ok.hd hc) (Sc.apart I hok2 (hf i2 (by simp)))
    have no1 : ∀ b ∈ [z, TI, TO, i1, i2], b ≠ i1 → b ∉ fp1 := fun b hb hn q => by
      rcases hfp1 b q with w | w
      · exact hn w
      · exact Sc.apart I hok1 (hf b hb) w
    have no2 : ∀ b ∈ [z, TI, TO, i1, i2], b ≠ i2 → b ∉ fp2 := fun b hb hn q => by
      rcases hfp2 b q with w | w
      · exact hn w
      · exact Sc.apart I hok2 (hf b hb) w
    simp only [List.nodup_cons, List.mem_cons, List.not_mem_nil, or_false, not_or, List.nodup_nil, and_true, not_false_eq_true] at hd
    obtain ⟨⟨n1, n2, n3, n4⟩, ⟨n5, n6, n7⟩, ⟨n8, n9⟩, n10⟩ := hd
    have S : ZipSep2 z TI TO i1 i2 fp1 fp2 := ⟨Ne.symm n1, Ne.symm n2, n5, n6, hm1, no1 z (by simp) n3, no1 TO (by simp) n8, n7, hm2, no2 z (by simp) n4, no2 TO (by simp) n9, no2 i1 (by simp) n10, no1 i2 (by simp) (Ne.symm n10)⟩
    have Gn := GoesN.zip2 (elts := elts) (x1 := kk) (pos := tpos) S D1 D2
    exact Gn.stops s (fun s1 => Inv X pins σ H s1) E ⟨h1, h2, h3, hs10 _ h4, hs20 _ h5⟩ fun h' tk hk htk => I.turnedL hk fun b hb => hf b (by
      simp only [List.mem_cons, List.not_mem_nil, or_false] at hb ⊢
      rcases hb with q | q | q | q
      · exact .inl q
      · exact .inr (.inr (.inl q))
      · exact .inr (.inr (.inr (.inl q)))
      · exact .inr (.inr (.inr (.inr q))))
  self := fun A i s Q E st h => wpAny_pyIter_zip st.1 h

/-! ### what a value is drawn from -/
/-- the items of a list, a tuple or a text -/
def itemsD : D → Option (List D)
  | .lst xs => some xs
  | .tup xs => some xs
  | .frl xs => some xs
  | .str z => some (z.map fun c => .str [c])
  | _ => none
def srcR (δ : Dl) : R → Out Src
  | .imm _ => .ok none
  | .slot j => match δ[j]? with
    | some (some (.imm _)) => .ok none
    | some (some (.own _)) => .ok (some j)
    | some (some (.lck _)) => .ok (some j)
    | _ => .stuck
theorem srcR_exc {δ : Dl} {r : R} {x : XD} (h : srcR δ r = .exc x) : False := by
  cases r with
  | imm d => cases h
  | slot j =>
    simp only [srcR] at h
    split at h <;> cases h
section
variable {T : Ctx} {M : Amb} {A : Pl} {I H : Hp} {σ : L2.St} {δ : Dl}
/-- a source of data: while the ground stands, it is as it was -/
structure ScOf (T : Ctx) (K : PySem.W.Frag) (A : Pl) (I1 H1 : Hp) (items : List D) (src : Src) (v : V) (sc : Sc) : Prop where
  rel : RelV v sc.val
  len : sc.len = items.length
  ok : ∀ I H, Same I H → SrcG T A I1 H1 items src I H → sc.okH K H
  nth : ∀ i x, sc.nth i = some x → ∃ d, items[i]? = some d ∧ Rep T I1 d x
theorem sc_of {K : PySem.W.Frag} (hK : T.K = K) (ok : Ok T M A I σ H δ) {r : R} {v : V} {u : Value} {d : D} {items : List D} {src : Src} (rr : RepR T I σ r v) (rv : RelV v u) (e1 : res δ r = .ok d) (e2 : itemsD d = some items) (e3 : srcR δ r = .ok src) :
    (∃ sc, sc.val = u ∧ ScOf T K A I H items src v sc) ∧ (srcOk items src δ ∨ ∃ z, d = .str z) := by
  have core : ∀ {ds : List D} {xs : List V}, Reps T I ds xs → ∀ (i : Nat) x, xs[i]? = some x → ∃ d, ds[i]? = some d ∧ Rep T I d x := fun {ds xs} r i x h => by
    have hi : i < ds.length := by
      by_cases z : i < ds.length
      · exact z
      · rw [List.getElem?_eq_none (by rw [r.len]; omega)] at h
        cases h
    obtain ⟨w, h1, h2⟩ := r.get (List.getElem?_eq_getElem hi)
    rw [h] at h1
    cases h1
    exact ⟨_, List.getElem?_eq_getElem hi, h2⟩
  have hR := ok.red rr e1
  have imm : ∀ {d}, src = none → Rep T I d v → itemsD d = some items → (∃ sc, sc.val = u ∧ ScOf T K A I H items src v sc) := fun {d} hs r e2 => by
    subst hs
    cases d with
    | lst xs =>
      cases e2
      obtain ⟨a, ys, rfl, h, rs⟩ := r.lst_inv
      cases rv
      exact ⟨.lst a ys, rfl, rfl, rs.len, fun I2 H2 s g => .of (s _ _ (g _ _ h)), core rs⟩
    | frl xs =>
      cases e2
      obtain ⟨a, ys, rfl, h, rs⟩ := r.frl_inv
      cases rv
      exact ⟨.lst a ys, rfl, rfl, rs.len, fun I2 H2 s g => by rw [← hK]; exact s.seq (Same.seq g h), core rs⟩
    | tup xs =>
      cases e2
      obtain ⟨a, ys, rfl, h, rs⟩ := r.tup_inv
      cases rv
      exact ⟨.tup a ys, rfl, rfl, rs.len, fun I2 H2 s g => by rw [← hK]; exact Same.sqt s (Same.sqt g h), core rs⟩
    | str z =>
      cases e2
      have := r.str_inv
      subst this
      obtain ⟨t, rfl⟩ := rv
      refine ⟨.txt (mkS z) t, rfl, ⟨t, rfl⟩, by simp [Sc.len, mkS], fun _ _ _ _ => trivial, fun i x h => ?_⟩
      have h : (mkS z).cps[i]?.map (fun c => V.str ⟨#[c]⟩) = some x := h
      rw [Option.map_eq_some_iff] at h
      obtain ⟨c, hc, rfl⟩ := h
      simp only [mkS, List.getElem?_toArray, List.getElem?_map, Option.map_eq_some_iff] at hc
      obtain ⟨ch, h1, rfl⟩ := hc
      exact ⟨.str [ch], by rw [List.getElem?_map, h1]; rfl, .ofstr⟩
    | _ => cases e2
  cases r with
  | imm d' =>
    cases e1
    cases e3
    exact ⟨imm rfl rr e2, .inl trivial⟩
  | slot j =>
    have hv : σ[j]? = some (some v) := rr
    simp only [srcR] at e3
    simp only [res] at e1
    split at e3
    · rename_i d' hd
      cases e3
      rw [hd] at e1
      cases e1
      obtain ⟨w, h1, h2⟩ := ok.sl j _ hd
      rw [hv] at h1
      cases h1
      exact ⟨imm rfl h2 e2, .inl trivial⟩
    · rename_i d' hd
      cases e3
      rw [hd] at e1
      cases e1
      obtain ⟨h1, h2, _⟩ := ok.sl j _ hd
      rw [hv] at h1
      cases h1
      cases d' with
      | lst xs =>
        cases e2
        obtain ⟨_, ys, h3, rs⟩ := h2
        cases rv
        refine ⟨⟨.lst (A j).1 ys, rfl, rfl, rs.len, fun I2 H2 s g => ?_, core rs⟩, .inl (.inl hd)⟩
        obtain ⟨gI, g2⟩ := g
        exact .of (g2.trans h3)
      | dk ks ds => cases e2
      | obj c fs => cases e2
      | _ => exact h2.elim
    · rename_i d' hd
      cases e3
      rw [hd] at e1
      cases e1
      obtain ⟨h1, h2, _⟩ := ok.sl j _ hd
      rw [hv] at h1
      cases h1
      cases d' with
      | lst xs =>
        cases e2
        obtain ⟨_, ys, h3, rs⟩ := h2
        cases rv
        refine ⟨⟨.lst (A j).1 ys, rfl, rfl, rs.len, fun I2 H2 s g => ?_, core rs⟩, .inl (.inr hd)⟩
        obtain ⟨gI, g2⟩ := g
        exact .of (g2.trans h3)
      | dk ks ds => cases e2
      | obj c fs => cases e2
      | _ => exact h2.elim
    · cases e3

/-- what the walk over items gives -/
theorem walk_sc {K : PySem.W.Frag} {items : List D} {src : Src} {v : V} {sc : Sc} (S : ScOf T K A I H items src v sc) {J : It} (hgo : ∀ i H, i < sc.len → sc.okH K H → J.go i H) (hst : ∀ H, sc.okH K H → J.stop sc.len H)
    (hy : ∀ i H x H', sc.okH K H → J.yld i H x H' → H' = H ∧ sc.nth i = some x) : WalkD T J items (SrcG T A I H items src) where
  goes := fun i I2 H2 hi s g => hgo i H2 (by rw [S.len]; exact hi) (S.ok I2 H2 s g)
  stops := fun I2 H2 s g => by rw [← S.len]; exact hst H2 (S.ok I2 H2 s g)
  yields := fun i I2 H2 x H' d hd s g y => by
    obtain ⟨rfl, e⟩ := hy i H2 x H' (S.ok I2 H2 s g) y
    obtain ⟨d', h1, h2⟩ := S.nth i x e
    rw [hd] at h1
    cases h1
    have gI : Same I I2 := by
      cases src with
      | none => exact g
      | some j => exact g.1
    exact ⟨I2, .refl s, h2.mono gI⟩
/-- .. in pairs -/
theorem walk_pair {items : List (D × D)} {src : Src} {its : List D} {fa fb : Nat → Option V} {G : Hp → Prop} (ha : ∀ i x, i < items.length → fa i = some x → ∃ p, items[i]? = some p ∧ Rep T I p.1 x) (hb : ∀ i x, i < items.length → fb i = some x → ∃ p, items[i]? = some p ∧ Rep T I p.2 x)
    (hG : ∀ I2 H2, Same I2 H2 → SrcG T A I H its src I2 H2 → G H2) : WalkD T (ItP fa fb items.length G) (items.map fun p => .tup [p.1, p.2]) (SrcG T A I H its src) where
  goes := fun i I2 H2 hi s g => ⟨by simpa using hi, hG I2 H2 s g⟩
  stops := fun I2 H2 s g => ⟨by simp, hG I2 H2 s g⟩
  yields := fun i I2 H2 x H' d hd s g y => by
    obtain ⟨T', u, w, rfl, hT, rfl, e1, e2⟩ := y
    have hi : i < items.length := by
      by_cases h : i < items.length
      · exact h
      · rw [List.getElem?_eq_none (by simpa using h)] at hd
        cases hd
    obtain ⟨p, h1, r1⟩ := ha i u hi e1
    obtain ⟨p', h2, r2⟩ := hb i w hi e2
    rw [h1] at h2
    cases h2
    rw [List.getElem?_map, h1] at hd
    cases hd
    have gI : Same I I2 := by
      cases src with
      | none => exact g
      | some j => exact g.1
    obtain ⟨n, r⟩ := new_tup s (.cons (r1.mono gI) (.cons (r2.mono gI) .nil)) hT
    exact ⟨_, n, r⟩
end

/-! ### what can stand behind «in» of a loop -/
def walkF (f : FE) : FI := fun δ => do
  let (r, δ1) ← f δ
  let d ← res δ1 r
  let its ← ofO (itemsD d)
  let src ← srcR δ1 r
  pure ((its, src), δ1)
section
variable {T : Ctx} {X : Cx} {E : XK} {tg e : Expr} {f : FE}
theorem walkF_inv {M : Amb} {f : FE} {δ : Dl} {α : Type} {m : (List D × Src) × Dl → Out α} {k : α → Prop} {r : R} {δ1 : Dl} (w : Wants T M E (res δ1 r >>= fun d => ofO (itemsD d) >>= fun its => srcR δ1 r >>= fun src => m ((its, src), δ1)) k) :
    ∃ d its src, res δ1 r = .ok d ∧ itemsD d = some its ∧ srcR δ1 r = .ok src ∧ Wants T M E (m ((its, src), δ1)) k := by
  cases q1 : res δ1 r with
  | stuck => rw [q1] at w; exact w.elim
  | exc x => exact (res_exc q1).elim
  | ok d =>
    rw [q1] at w
    cases q2 : itemsD d with
    | none => simp only [ok_bind, q2] at w; exact w.elim
    | some its =>
      simp only [ok_bind, q2, ofO_some] at w
      cases q3 : srcR δ1 r with
      | stuck => rw [q3] at w; exact w.elim
      | exc x => exact (srcR_exc q3).elim
      | ok src => rw [q3] at w; exact ⟨d, its, src, rfl, q2, rfl, w⟩
theorem srcOk_of {T : Ctx} {M : Amb} {A : Pl} {I H : Hp} {σ : L2.St} {δ : Dl} (ok : Ok T M A I σ H δ) {r : R} {d : D} {its : List D} {src : Src} (h1 : res δ r = .ok d) (h2 : itemsD d = some its) (h3 : srcR δ r = .ok src) : srcOk its src δ := by
  cases r with
  | imm d' => cases h3; trivial
  | slot j =>
    simp only [srcR] at h3
    simp only [res] at h1
    split at h3
    · cases h3; trivial
    · rename_i d' hd
      cases h3
      rw [hd] at h1
      cases h1
      obtain ⟨_, h4, _⟩ := ok.sl j _ hd
      cases d' with
      | lst xs => cases h2; exact .inl hd
      | dk ks ds => cases h2
      | obj c fs => cases h2
      | _ => exact h4.elim
    · rename_i d' hd
      cases h3
      rw [hd] at h1
      cases h1
      obtain ⟨_, h4, _⟩ := ok.sl j _ hd
      cases d' with
      | lst xs => cases h2; exact .inr hd
      | dk ks ds => cases h2
      | obj c fs => cases h2
      | _ => exact h4.elim
    · cases h3
/-- a list, a tuple or a text -/
theorem di_any (he : DE T X E e f) (hK : T.K = X.K := by rfl) : DI T X E tg e (walkF f) := by
  refine ⟨fun pins s σ H R I h => ?_⟩
  obtain ⟨M, A, I0, δ, ok, w⟩ := h
  refine thn (he.run pins s σ H (fun v H1 => ∃ r δ1 I1, Ok T M A I1 σ H1 δ1 ∧ Stp A δ I0 H δ1 I1 H1 ∧ RepR T I1 σ r v ∧ Wants T M E (res δ1 r >>= fun d => ofO (itemsD d) >>= fun its => srcR δ1 r >>= fun src => pure ((its, src), δ1)) (fun z => ∀ J I' H', Ok T M A I' σ H' z.2 → Stp A δ I0 H z.2 I' H' → srcOk z.1.1 z.1.2 z.2 → WalkD T J z.1.1 (SrcG T A I' H' z.1.1 z.1.2) → R J H')) I
    ⟨M, A, I0, δ, ok, w.bind.imp fun z e1 w1 v I1 H1 ok1 st1 rr => ⟨z.1, z.2, I1, ok1, st1, rr, w1⟩⟩) fun u s1 hv => ?_
  obtain ⟨v, H1, J1, rv, r, δ1, I1, ok1, st1, rr, w1⟩ := hv
  obtain ⟨d, its, src, q1, q2, q3, w2⟩ := walkF_inv (f := f) (δ := δ) w1
  have so := srcOk_of ok1 q1 q2 q3
  obtain ⟨⟨sc, hval, S⟩, _⟩ := sc_of hK ok1 rr rv q1 q2 q3
  have fin : ∀ J, WalkD T J its (SrcG T A I1 H1 its src) → R J H1 := fun J wk => w2 J I1 H1 ok1 st1 so wk
  have gself : SrcG T A I1 H1 its src I1 H1 := by
    cases src with
    | none => exact .refl _
    | some j => exact ⟨.refl _, rfl⟩
  have okc := S.ok I1 H1 ok1.sub gself
  subst hval
  cases sc with
  | lst a xs =>
    obtain ⟨ys, rv', p, hz⟩ := J1.list okc
    refine wpAny_pyIter_list p.isList ?_
    refine ⟨s1.heap.objs.size, [s1.heap.objs.size], _, _, H1, rfl, J1.kept (t' := s1.toks) fun b o e => Heap.get?_push_of_some _ e, turn_list a _, ⟨_, Heap.get?_push_size _ rfl, rfl, rfl⟩, fun b hb => ?_, fin _ ?_⟩
    · have e : b = s1.heap.objs.size := by simpa using hb
      subst e
      exact J1.fpOk (Nat.le_refl _) (J1.hok.fresh (Nat.le_refl _))
    · exact walk_sc S (fun i H hi h => ⟨xs, xs[i]'hi, h, List.getElem?_eq_getElem hi⟩) (fun H h => ⟨xs, h, Nat.le_refl _⟩) fun i H x H' h y => ⟨y.1, y.2 xs h⟩
  | tup a xs =>
    obtain ⟨ys, rv', p, hz⟩ := J1.tuple okc
    refine wpAny_pyIter_tuple (show s1.heap.IsTuple a ys.toArray from p) ?_
    refine ⟨s1.heap.objs.size, [s1.heap.objs.size], _, _, H1, rfl, J1.kept (t' := s1.toks) fun b o e => Heap.get?_push_of_some _ e, turn_tuple a _, ⟨_, Heap.get?_push_size _ rfl, rfl, rfl⟩, fun b hb => ?_, fin _ ?_⟩
    · have e : b = s1.heap.objs.size := by simpa using hb
      subst e
      exact J1.fpOk (Nat.le_refl _) (J1.hok.fresh (Nat.le_refl _))
    · exact walk_sc S (fun i H hi h => ⟨xs, xs[i]'hi, h, List.getElem?_eq_getElem hi⟩) (fun H h => ⟨xs, h, Nat.le_refl _⟩) fun i H x H' h y => ⟨y.1, y.2 xs h⟩
  | txt z t =>
    cases ha : z.cps.all (· < 128)
    · refine wpAny_pyIter_wide ha (pi_one (tk := s1.toks) J1 _ (turn_str _ z t "str_iterator" (.inr rfl)) ⟨_, Heap.get?_push_size _ rfl, rfl, rfl⟩ (fin _ ?_))
      exact walk_sc S (fun i H hi h => hi) (fun H h => Nat.le_refl _) fun i H x H' h y => ⟨y.1, by obtain ⟨c, h1, h2⟩ := y.2; show z.cps[i]?.map _ = _; rw [h1, h2]; rfl⟩
    · refine wpAny_pyIter_ascii ha (pi_one (tk := s1.toks) J1 _ (turn_str _ z t "str_ascii_iterator" (.inl rfl)) ⟨_, Heap.get?_push_size _ rfl, rfl, rfl⟩ (fin _ ?_))
      exact walk_sc S (fun i H hi h => hi) (fun H h => Nat.le_refl _) fun i H x H' h y => ⟨y.1, by obtain ⟨c, h1, h2⟩ := y.2; show z.cps[i]?.map _ = _; rw [h1, h2]; rfl⟩
end

/-! ### enumerate, zip -/
section
open Builtin
set_option maxHeartbeats 1000000 in
theorem meets_enum1 {v : Value} {o : Obj} {H : Heap → Prop} (B : Begins v o H) :
    Meets (Builtin.«enumerate.__new__» ⟨[.type "enumerate", v], []⟩) (fun _ R s => H s.heap ∧
      R (.ok (.ret (.ref (s.heap.push o).objs.size))) { s with heap := (s.heap.push o).push { cls := .type "enumerate", data := .fields #[.none, .bool false, .ref s.heap.objs.size, rawInt 0, .none, .none] } }) :=
  .of_wp fun prog w A R s h => by
    obtain ⟨hp, g, d, tk, os⟩ := s; obtain ⟨h1, h⟩ := h
    have hsub := sub_enumerate
    have q1 : ∀ {A' : Around} {E : Value → Shared → Prop} {Q : Value → Shared → Prop}, Q (.ref hp.objs.size) ⟨hp.push o, g, d, tk, os⟩ → wpAny (model prog w) A' (pyIter v) Q E ⟨hp, g, d, tk, os⟩ :=
      fun q => B.iter prog w _ _ ⟨hp, g, d, tk, os⟩ _ h1 q
    wp_walk using q1
    refine wpAny_stack_any fun st => wpAny_pure ?_
    split
    · rename_i c _ _ _ _ _
      cases (c == Value.type "enumerate")
      · wp_walk using q1
        exact ⟨_, rfl, h⟩
      · wp_walk using q1
        exact ⟨_, rfl, h⟩
    · wp_walk using q1
      exact ⟨_, rfl, h⟩
end
theorem enum1_begins {prog : Program} {w : World} {A : Around} {E : Value → Shared → Prop} {s : Shared} {v : Value} {o : Obj} {H : Heap → Prop} {Q : Value → Shared → Prop} (B : Begins v o H) (h1 : H s.heap)
    (h : ∀ h', IsEnum h' (s.heap.objs.size + 1) s.heap.objs.size 0 .none → h'.get? s.heap.objs.size = some o → h'.objs.size = s.heap.objs.size + 2 →
      (∀ b o, s.heap.get? b = some o → h'.get? b = some o) → Q (.ref (s.heap.objs.size + 1)) { s with heap := h' }) :
    wpAny (model prog w) A (call (.type "enumerate") [v]) Q E s := by
  refine callType_new F.called_enumerate (by decide) (F.typeCall_enumerate_1 _) (F.newCall_enumerate_1 _) (fun obj => F.args_object_init_2 obj _) F.entry_enumerate_new (meets_enum1 B) ⟨h1, ?_⟩
  have hz : (s.heap.push o).objs.size = s.heap.objs.size + 1 := Heap.size_push ..
  show _ ∧ _
  rw [hz]
  have he : IsEnum ((s.heap.push o).push { cls := .type "enumerate", data := .fields #[.none, .bool false, .ref s.heap.objs.size, rawInt 0, .none, .none] }) (s.heap.objs.size + 1) s.heap.objs.size 0 .none := by
    have := Heap.get?_push_size (s.heap.push o) (o := { cls := .type "enumerate", data := .fields #[.none, .bool false, .ref s.heap.objs.size, rawInt 0, .none, .none] }) rfl
    rw [hz] at this; exact this
  exact ⟨⟨_, he, rfl⟩, h _ he (Heap.get?_push_of_some _ (Heap.get?_push_size _ B.free)) (by rw [Heap.size_push, hz]) fun b o x => Heap.get?_push_of_some _ (Heap.get?_push_of_some _ x)⟩

def pairsD (ps : List (D × D)) : List D := ps.map fun p => .tup [p.1, p.2]
/-- the items with their numbers -/
def numD : Nat → List D → List (D × D)
  | _, [] => []
  | n, d :: ds => (.int n, d) :: numD (n + 1) ds
theorem numD_len : ∀ (ds : List D) (n : Nat), (numD n ds).length = ds.length
  | [], _ => rfl
  | d :: ds, n => by simp only [numD, List.length_cons, numD_len ds (n + 1)]
theorem numD_get : ∀ (ds : List D) (n i : Nat), (numD n ds)[i]? = ds[i]?.map fun d => (.int ((n + i : Nat) : Int), d)
  | [], _, _ => by simp [numD]
  | d :: ds, n, 0 => by simp [numD]
  | d :: ds, n, i + 1 => by
    simp only [numD, List.getElem?_cons_succ, numD_get ds (n + 1) i]
    congr 1
    funext d
    rw [show n + 1 + i = n + (i + 1) by omega]
def enumF (fa : FA) : FI := fun δ => do
  let (rs, δ1) ← fa δ
  match rs with
  | [r] => do
    let (d, δ2) ← takeR r δ1
    let its ← ofO (itemsD d)
    pure ((pairsD (numD 0 its), none), δ2)
  | _ => .stuck
def zipF (fa : FA) : FI := fun δ => do
  let (rs, δ1) ← fa δ
  match rs with
  | [r, r'] => do
    let (d, δ2) ← takeR r δ1
    let (d', δ3) ← takeR r' δ2
    let its ← ofO (itemsD d)
    let its' ← ofO (itemsD d')
    pure ((pairsD (its.zip its'), none), δ3)
  | _ => .stuck
section
variable {T : Ctx} {X : Cx} {E : XK}
theorem sc_imm {K : PySem.W.Frag} {T : Ctx} {M : Amb} {A : Pl} {I H : Hp} {σ : L2.St} {δ : Dl} (hK : T.K = K) (ok : Ok T M A I σ H δ) {v : V} {u : Value} {d : D} {items : List D} (r : Rep T I d v) (rv : RelV v u) (e2 : itemsD d = some items) : ∃ sc, sc.val = u ∧ ScOf T K A I H items none v sc :=
  (sc_of hK ok (r := .imm d) r rv rfl e2 rfl).1
variable {e e2 : Expr} {fa : FA} {p pos tpos : Pos} {elts : List Expr} {kk : Nat}
theorem di_enum (ha : DA T X E [e] fa) (hm : X.mg "enumerate" = none) (hg : Gl X "enumerate" := by rfl) (hK : T.K = X.K := by rfl) (hs : starEach [e] X.env = [(false, eval e X.env)] := by rfl) :
    DI T X E (.Tuple elts kk tpos) (.Call (.Name "enumerate" p) [e] [] pos) (enumF fa) := by
  refine ⟨fun pins s σ H R I h => ?_⟩
  obtain ⟨M, A, I0, δ, ok, w⟩ := h
  refine Call_ (ld_blt I hg hm boot_enumerate (PyProof.Rows.callWith_type1 (thn (ha.run pos pins s σ H (fun vs H1 => ∃ rs δ1 I1, Ok T M A I1 σ H1 δ1 ∧ Stp A δ I0 H δ1 I1 H1 ∧ RepRs T I1 σ rs vs ∧ Wants T M E (match rs with
      | [r] => takeR r δ1 >>= fun z => ofO (itemsD z.1) >>= fun its => pure ((pairsD (numD 0 its), none), z.2)
      | _ => .stuck) (fun z => ∀ J I' H', Ok T M A I' σ H' z.2 → Stp A δ I0 H z.2 I' H' → srcOk z.1.1 z.1.2 z.2 → WalkD T J z.1.1 (SrcG T A I' H' z.1.1 z.1.2) → R J H')) I
    ⟨M, A, I0, δ, ok, w.bind.imp fun z e1 w1 v I1 H1 ok1 st1 rr => ⟨z.1, z.2, I1, ok1, st1, rr, w1⟩⟩) fun us s1 hv => ?_) hs rfl))
  obtain ⟨vs, H1, J1, rv, rs, δ1, I1, ok1, st1, rr, w1⟩ := hv
  cases rs with
  | nil => exact w1.elim
  | cons r rs =>
    cases rs with
    | cons _ _ => exact w1.elim
    | nil =>
      obtain ⟨v, _, rfl, r1, e0⟩ := rr
      have e0 : _ = [] := e0
      subst e0
      obtain ⟨u, rfl, ru⟩ := vals1 rv
      replace w1 : Wants T M E (takeR r δ1 >>= fun z => ofO (itemsD z.1) >>= fun its => pure ((pairsD (numD 0 its), (none : Src)), z.2)) _ := w1
      cases q1 : takeR r δ1 with
      | stuck => rw [q1] at w1; exact w1.elim
      | exc x => exact (takeR_exc q1).elim
      | ok z =>
        obtain ⟨d, δ2⟩ := z
        rw [q1, ok_bind] at w1
        cases q2 : itemsD d with
        | none => simp only [q2] at w1; exact w1.elim
        | some its =>
          simp only [q2, ofO_some, ok_bind] at w1
          obtain ⟨I2, ok2, st2, rd⟩ := ok1.hand r1 q1
          obtain ⟨sc, hval, S⟩ := sc_imm hK ok2 rd ru q2
          subst hval
          have okc := S.ok I2 H1 ok2.sub (.refl _)
          obtain ⟨Hb, B, hb⟩ := Sc.begins J1 okc
          refine enum1_begins B hb fun h' he ho hsz hk => wpAny_pyIter_enum he ?_
          have J2 : Inv X pins σ H1 { s1 with heap := h' } := J1.kept (t' := s1.toks) hk
          refine ⟨s1.heap.objs.size + 1, [s1.heap.objs.size + 1, s1.heap.objs.size], _, _, H1, rfl, J2, turn_enumS sc (s1.heap.objs.size + 1) s1.heap.objs.size, ⟨⟨.none, by simpa using he⟩, Sc.it_new ho, Nat.succ_ne_self _⟩, fun b hb => ?_, ?_⟩
          · have e' : b = s1.heap.objs.size + 1 ∨ b = s1.heap.objs.size := by simpa using hb
            have hle : s1.heap.objs.size ≤ b := by
              rcases e' with z | z
              · rw [z]; exact Nat.le_add_right _ _
              · rw [z]; exact Nat.le_refl _
            exact J1.fpOk hle (J1.hok.fresh hle)
          · refine w1 _ I2 H1 ok2 (st1.trans st2) trivial ?_
            have hl : sc.len = (numD 0 its).length := by rw [numD_len, S.len]
            rw [hl]
            refine walk_pair (fun i x hi e => ?_) (fun i x hi e => ?_) fun I3 H3 s g => S.ok I3 H3 s g
            · cases e
              rw [numD_len] at hi
              exact ⟨_, by rw [numD_get, List.getElem?_eq_getElem hi]; rfl, by simpa using (Rep.ofint : Rep T I2 (.int (i : Int)) _)⟩
            · obtain ⟨d', h1, h2⟩ := S.nth i x e
              exact ⟨_, by rw [numD_get, h1]; rfl, h2⟩
theorem di_zip (ha : DA T X E [e, e2] fa) (hm : X.mg "zip" = none) (hg : Gl X "zip" := by rfl) (hK : T.K = X.K := by rfl) (hs : starEach [e, e2] X.env = [(false, eval e X.env), (false, eval e2 X.env)] := by rfl) (hs2 : starEach [e2] X.env = [(false, eval e2 X.env)] := by rfl) :
    DI T X E (.Tuple elts kk tpos) (.Call (.Name "zip" p) [e, e2] [] pos) (zipF fa) := by
  refine ⟨fun pins s σ H R I h => ?_⟩
  obtain ⟨M, A, I0, δ, ok, w⟩ := h
  refine Call_ (ld_blt I hg hm boot_zip (PyProof.Rows.callWith_type1 (thn (ha.run pos pins s σ H (fun vs H1 => ∃ rs δ1 I1, Ok T M A I1 σ H1 δ1 ∧ Stp A δ I0 H δ1 I1 H1 ∧ RepRs T I1 σ rs vs ∧ Wants T M E (match rs with
      | [r, r'] => takeR r δ1 >>= fun z => takeR r' z.2 >>= fun z' => ofO (itemsD z.1) >>= fun its => ofO (itemsD z'.1) >>= fun its' => pure ((pairsD (its.zip its'), none), z'.2)
      | _ => .stuck) (fun z => ∀ J I' H', Ok T M A I' σ H' z.2 → Stp A δ I0 H z.2 I' H' → srcOk z.1.1 z.1.2 z.2 → WalkD T J z.1.1 (SrcG T A I' H' z.1.1 z.1.2) → R J H')) I
    ⟨M, A, I0, δ, ok, w.bind.imp fun z e1 w1 v I1 H1 ok1 st1 rr => ⟨z.1, z.2, I1, ok1, st1, rr, w1⟩⟩) fun us s1 hv => ?_) (by rw [hs, hs2]) (by rw [hs2]; rfl)))
  obtain ⟨vs, H1, J1, rv, rs, δ1, I1, ok1, st1, rr, w1⟩ := hv
  cases rs with
  | nil => exact w1.elim
  | cons r rs =>
    cases rs with
    | nil => exact w1.elim
    | cons r' rs =>
      cases rs with
      | cons _ _ => exact w1.elim
      | nil =>
        obtain ⟨v, _, rfl, r1, v', _, rfl, r1', e0⟩ := rr
        have e0 : _ = [] := e0
        subst e0
        obtain ⟨u, u', rfl, ru, ru'⟩ := vals2 rv
        replace w1 : Wants T M E (takeR r δ1 >>= fun z => takeR r' z.2 >>= fun z' => ofO (itemsD z.1) >>= fun its => ofO (itemsD z'.1) >>= fun its' => pure ((pairsD (its.zip its'), (none : Src)), z'.2)) _ := w1
        cases q1 : takeR r δ1 with
        | stuck => rw [q1] at w1; exact w1.elim
        | exc x => exact (takeR_exc q1).elim
        | ok z =>
          obtain ⟨d, δ2⟩ := z
          rw [q1, ok_bind] at w1
          cases q1' : takeR r' δ2 with
          | stuck => simp only [q1'] at w1; exact w1.elim
          | exc x => exact (takeR_exc q1').elim
          | ok z =>
            obtain ⟨d', δ3⟩ := z
            simp only [q1', ok_bind] at w1
            cases q2 : itemsD d with
            | none => simp only [q2] at w1; exact w1.elim
            | some its =>
              cases q2' : itemsD d' with
              | none => simp only [q2, q2', ofO_some, ok_bind] at w1; exact w1.elim
              | some its' =>
                simp only [q2, q2', ofO_some, ok_bind] at w1
                obtain ⟨I2, ok2, st2, rd⟩ := ok1.hand r1 q1
                obtain ⟨I3, ok3, st3, rd'⟩ := ok2.hand (r1'.mono st2.gro) q1'
                obtain ⟨sc, hval, S⟩ := sc_imm hK ok3 (rd.mono st3.gro) ru q2
                obtain ⟨sc', hval', S'⟩ := sc_imm hK ok3 rd' ru' q2'
                subst hval
                subst hval'
                obtain ⟨Hb, B, hb⟩ := Sc.begins J1 (S.ok I3 H1 ok3.sub (.refl _))
                obtain ⟨Hb', B', hb'⟩ := Sc.begins J1 (S'.ok I3 H1 ok3.sub (.refl _))
                refine zip_begins2 B B' hb hb' fun h' hz hT hO ho1 ho2 hsz hk => wpAny_pyIter_zip hz ?_
                have J2 : Inv X pins σ H1 { s1 with heap := h' } := J1.kept (t' := s1.toks) hk
                refine ⟨s1.heap.objs.size + 4, [s1.heap.objs.size + 4, s1.heap.objs.size + 2, s1.heap.objs.size + 3, s1.heap.objs.size, s1.heap.objs.size + 1], _, _, H1, rfl, J2, turn_zipS sc sc' _ _ _ _ _ ?_, ⟨hz, hT, ⟨_, _, hO⟩, Sc.it_new ho1, Sc.it_new ho2⟩, fun b hb => ?_, ?_⟩
                · have : ∀ n : Nat, [n + 4, n + 2, n + 3, n, n + 1].Nodup := fun n => by simp
                  exact this s1.heap.objs.size
                · have hle : s1.heap.objs.size ≤ b := by
                    have : ∀ n m : Nat, m ∈ [n + 4, n + 2, n + 3, n, n + 1] → n ≤ m := fun n m h => by
                      simp only [List.mem_cons, List.not_mem_nil, or_false] at h
                      omega
                    exact this _ _ hb
                  exact J1.fpOk hle (J1.hok.fresh hle)
                · refine w1 _ I3 H1 ok3 ((st1.trans st2).trans st3) trivial ?_
                  have hl : min sc.len sc'.len = (its.zip its').length := by rw [List.length_zip, S.len, S'.len]
                  rw [hl]
                  refine walk_pair (fun i x hi e => ?_) (fun i x hi e => ?_) fun I4 H4 s g => ⟨S.ok I4 H4 s g, S'.ok I4 H4 s g⟩
                  · obtain ⟨d1, h1, h2⟩ := S.nth i x e
                    have hz := List.getElem?_eq_getElem hi
                    refine ⟨_, hz, ?_⟩
                    rw [List.length_zip] at hi
                    rw [List.getElem_zip]
                    have : its[i]? = some (its[i]'(by omega)) := List.getElem?_eq_getElem _
                    rw [h1] at this
                    cases this
                    exact h2
                  · obtain ⟨d1, h1, h2⟩ := S'.nth i x e
                    have hz := List.getElem?_eq_getElem hi
                    refine ⟨_, hz, ?_⟩
                    rw [List.length_zip] at hi
                    rw [List.getElem_zip]
                    have : its'[i]? = some (its'[i]'(by omega)) := List.getElem?_eq_getElem _
                    rw [h1] at this
                    cases this
                    exact h2
end
end DE
set_option Elab.async false
set_option linter.all false
set_option maxRecDepth 100000
set_option maxHeartbeats 2000000
namespace DE
open PySem PySem.Spec PyProof.Rows L2

/-! ### calls of what is built in -/
def Redl (T : Ctx) (I H : Hp) : List D → List V → Prop
  | [], vs => vs = []
  | d :: ds, vs => ∃ v r, vs = v :: r ∧ Red T I H d v ∧ Redl T I H ds r
def resL (δ : Dl) : List R → Out (List D)
  | [] => .ok []
  | r :: rs => do
    let d ← res δ r
    let ds ← resL δ rs
    pure (d :: ds)
theorem resL_exc {δ : Dl} : ∀ {rs : List R} {x : XD}, resL δ rs = .exc x → False
  | [], _, h => by cases h
  | r :: rs, x, h => by
    rcases bind_excE (m := res δ r) h with h | ⟨a, _, h⟩
    · exact res_exc h
    · rcases bind_excE (m := resL δ rs) h with h | ⟨b, _, h⟩
      · exact resL_exc h
      · cases h
theorem Ok.redl {T : Ctx} {M : Amb} {A : Pl} {I H : Hp} {σ : L2.St} {δ : Dl} (x : Ok T M A I σ H δ) : ∀ {rs : List R} {vs : List V} {ds : List D}, RepRs T I σ rs vs → resL δ rs = .ok ds → Redl T I H ds vs
  | [], vs, ds, h, e => by
    cases e
    exact h
  | r :: rs, vs, ds, ⟨v, ws, e0, h1, h2⟩, e => by
    subst e0
    obtain ⟨d, e1, e⟩ := bind_okE (m := res δ r) e
    obtain ⟨ds1, e2, e⟩ := bind_okE (m := resL δ rs) e
    cases e
    exact ⟨v, ws, rfl, x.red h1 e1, Ok.redl x h2 e2⟩
def GC (T : Ctx) (r : List V → Hp → VK → Prop) (g : List D → Option D) : Prop := ∀ {I H : Hp} {ds : List D} {vs : List V} {d : D} {Q : VK}, Same I H → Redl T I H ds vs → g ds = some d → (∀ v I' H', New I H I' H' → Rep T I' d v → Q v H') → r vs H Q
/-- .. a fresh object of one record -/
def GCN (T : Ctx) (r : List V → Hp → VK → Prop) (g : List D → Option D) : Prop := ∀ {I H : Hp} {ds : List D} {vs : List V} {d : D} {Q : VK}, Same I H → Redl T I H ds vs → g ds = some d → (∀ p o, H p = none → OwnRep T I (upd H p o) d (p, p) → Q (.ref p) (upd H p o)) → r vs H Q
def biF (g : List D → Option D) (fa : FA) : FE := fun δ => do
  let (rs, δ1) ← fa δ
  let ds ← resL δ1 rs
  let d ← ofO (g ds)
  pure (.imm d, δ1)
def biN (g : List D → Option D) (fa : FA) : FN := fun δ => do
  let (rs, δ1) ← fa δ
  let ds ← resL δ1 rs
  let d ← ofO (g ds)
  pure (d, δ1)
theorem ap_new {T : Ctx} {M : Amb} {A : Pl} {I H : Hp} {σ : L2.St} {δ : Dl} {d : D} {p : Addr} {o : HO} (ok : Ok T M A I σ H δ) (h : H p = none) : Ok T M A I σ (upd H p o) δ ∧ Stp A δ I H δ I (upd H p o) ∧ Apart M A δ I (p, p) :=
  ⟨ok.laidD h, ⟨.refl _, fun b u e => .inl e, fun b u e _ => by rw [upd_ne (ne_of_none e h)]; exact e, fun _ h => h, fun b u e => ⟨u, by rw [upd_ne (ne_of_none e h)]; exact e⟩⟩, ok.fresh h h⟩
theorem Stp.back {A : Pl} {δ δ' : Dl} {I H I' H' : Hp} (st : Stp A δ I H δ' I' H') {b : Addr} (h : H' b = none) : H b = none := by
  cases z : H b with
  | none => rfl
  | some o =>
    obtain ⟨o', z'⟩ := st.dom b o z
    rw [h] at z'
    cases z'
section
variable {T : Ctx} {X : Cx} {E : XK} {e a b : Expr} {es : List Expr} {fa : FA} {p pos : Pos} {x : Str} {r : List V → Hp → VK → Prop} {g : List D → Option D}
theorem tCB_of {t : TA} (hg : GC T r g) (ht : ∀ σ H Q, tA T E fa σ H Q → t σ H Q) : ∀ σ H Q, tE T E (biF g fa) σ H Q → tCB r t σ H Q := fun σ H Q ⟨M, A, I, δ, ok, w⟩ => by
  refine ht _ _ _ ⟨M, A, I, δ, ok, w.bind.imp fun (rs, δ1) e1 w1 vs I1 H1 ok1 st1 r1 => ?_⟩
  replace w1 : Wants T M E (resL δ1 rs >>= fun ds => ofO (g ds) >>= fun d => pure (R.imm d, δ1)) _ := w1
  cases q : resL δ1 rs with
  | stuck => rw [q] at w1; exact w1.elim
  | exc x => exact (resL_exc q).elim
  | ok ds =>
    rw [q, ok_bind] at w1
    cases q2 : g ds with
    | none => rw [q2] at w1; exact w1.elim
    | some d =>
      rw [q2] at w1
      exact hg ok1.sub (ok1.redl r1 q) q2 fun v I' H' n rv => w1 v I' H' (ok1.new n) (st1.trans n.stp) rv
theorem tCBN_of {t : TA} (hg : GCN T r g) (ht : ∀ σ H Q, tA T E fa σ H Q → t σ H Q) : ∀ σ H Q, tN T E (biN g fa) σ H Q → tCB r t σ H Q := fun σ H Q ⟨M, A, I, δ, ok, w⟩ => by
  refine ht _ _ _ ⟨M, A, I, δ, ok, w.bind.imp fun (rs, δ1) e1 w1 vs I1 H1 ok1 st1 r1 => ?_⟩
  replace w1 : Wants T M E (resL δ1 rs >>= fun ds => ofO (g ds) >>= fun d => pure (d, δ1)) _ := w1
  cases q : resL δ1 rs with
  | stuck => rw [q] at w1; exact w1.elim
  | exc x => exact (resL_exc q).elim
  | ok ds =>
    rw [q, ok_bind] at w1
    cases q2 : g ds with
    | none => rw [q2] at w1; exact w1.elim
    | some d =>
      rw [q2] at w1
      refine hg ok1.sub (ok1.redl r1 q) q2 fun p o hp ow => ?_
      obtain ⟨k1, k2, k3⟩ := ap_new (d := d) (o := o) ok1 hp
      exact w1 (p, p) I1 _ k1 (st1.trans k2) ow k3 (st1.back hp) (st1.back hp)
theorem de_biB {id : String} (hc : CallR X (.builtin id) r) (hG : GC T r g) (hm : X.mg x = none) (ha : DA T X E (e :: es) fa) (hg : Gl X x := by rfl) (hv : bootBuiltins x = some (.builtin id) := by first | rfl | decide +kernel) (hn : x ≠ "__name__" := by decide) (hdb : (x == ("__debug__" : Str)) = false := by decide)
    (he : starEach (e :: es) X.env = (false, eval e X.env) :: starEach es X.env := by rfl) (hpl : (backTo pos (starEach es X.env)).any (·.1) = false := by rfl) : DE T X E (.Call (.Name x p) (e :: es) [] pos) (biF g fa) :=
  PE.of (pe_callB hc hg hm hv ha hn hdb he hpl) (tCB_of hG fun _ _ _ z => z)
theorem de_biT {n : String} (hc : CallR X (.type n) r) (hG : GC T r g) (hm : X.mg x = none) (ha : DA T X E (e :: es) fa) (hg : Gl X x := by rfl) (hv : bootBuiltins x = some (.type n) := by first | rfl | decide +kernel) (hn : x ≠ "__name__" := by decide) (hdb : (x == ("__debug__" : Str)) = false := by decide)
    (he : starEach (e :: es) X.env = (false, eval e X.env) :: starEach es X.env := by rfl) (hpl : (backTo pos (starEach es X.env)).any (·.1) = false := by rfl) : DE T X E (.Call (.Name x p) (e :: es) [] pos) (biF g fa) :=
  PE.of (pe_callTy hc hg hm hv ha hn hdb he hpl) (tCB_of hG fun _ _ _ z => z)
theorem dn_biB {id : String} (hc : CallR X (.builtin id) r) (hG : GCN T r g) (hm : X.mg x = none) (ha : DA T X E (e :: es) fa) (hg : Gl X x := by rfl) (hv : bootBuiltins x = some (.builtin id) := by first | rfl | decide +kernel) (hn : x ≠ "__name__" := by decide) (hdb : (x == ("__debug__" : Str)) = false := by decide)
    (he : starEach (e :: es) X.env = (false, eval e X.env) :: starEach es X.env := by rfl) (hpl : (backTo pos (starEach es X.env)).any (·.1) = false := by rfl) : DN T X E (.Call (.Name x p) (e :: es) [] pos) (biN g fa) :=
  PE.of (pe_callB hc hg hm hv ha hn hdb he hpl) (tCBN_of hG fun _ _ _ z => z)
theorem dn_biT {n : String} (hc : CallR X (.type n) r) (hG : GCN T r g) (hm : X.mg x = none) (ha : DA T X E (e :: es) fa) (hg : Gl X x := by rfl) (hv : bootBuiltins x = some (.type n) := by first | rfl | decide +kernel) (hn : x ≠ "__name__" := by decide) (hdb : (x == ("__debug__" : Str)) = false := by decide)
    (he : starEach (e :: es) X.env = (false, eval e X.env) :: starEach es X.env := by rfl) (hpl : (backTo pos (starEach es X.env)).any (·.1) = false := by rfl) : DN T X E (.Call (.Name x p) (e :: es) [] pos) (biN g fa) :=
  PE.of (pe_callTy hc hg hm hv ha hn hdb he hpl) (tCBN_of hG fun _ _ _ z => z)

theorem redl1 {I H : Hp} {d : D} {vs : List V} (h : Redl T I H [d] vs) : ∃ v, vs = [v] ∧ Red T I H d v := by
  obtain ⟨v, r, rfl, h1, h2⟩ := h
  have h2 : r = [] := h2
  subst h2
  exact ⟨v, rfl, h1⟩
theorem redl2 {I H : Hp} {d d' : D} {vs : List V} (h : Redl T I H [d, d'] vs) : ∃ v w, vs = [v, w] ∧ Red T I H d v ∧ Red T I H d' w := by
  obtain ⟨v, r, rfl, h1, h2⟩ := h
  obtain ⟨w, rfl, h3⟩ := redl1 h2
  exact ⟨v, w, rfl, h1, h3⟩

/-! ### len -/
def lenD : List D → Option D
  | [.str s] => if lim s.length then some (.int s.length) else none
  | [.lst xs] => some (.int xs.length)
  | [.tup xs] => some (.int xs.length)
  | [.frl xs] => some (.int xs.length)
  | [.dk ks _] => some (.int ks.length)
  | _ => none
def rLenA (K : PySem.W.Frag) : List V → Hp → VK → Prop := fun xs H Q => (∃ x n, xs = [x] ∧ LenV K x H n ∧ Q (.int n) H) ∨ ∃ a kvs, xs = [V.ref a] ∧ Rd H a (.dK kvs) ∧ Q (.int kvs.length) H
theorem call_lenR : CallR X (.builtin "len") (fun xs H Q => ∃ a kvs, xs = [V.ref a] ∧ Rd H a (.dK kvs) ∧ Q (.int kvs.length) H) := by
  intro pins s σ H xs us Q I r h
  obtain ⟨a, kvs, rfl, ha, q⟩ := h
  obtain ⟨u, rfl, ru⟩ := vals1 r
  cases ru
  exact d_len I ha fun t s' I' => ⟨.int kvs.length, H, I', ⟨t, rfl⟩, q⟩
theorem g_len (hK : T.K = X.K) : GC T (rLenA X.K) lenD := by
  intro I H ds vs d Q s h e q
  match ds, e with
  | [.str z], e =>
    obtain ⟨v, rfl, h1⟩ := redl1 h
    simp only [lenD] at e
    split at e
    · rename_i hl
      cases e
      rw [h1.str_inv]
      exact .inl ⟨_, z.length, rfl, ⟨by rw [mkS_length]; exact hl.le, by rw [mkS_length]⟩, q _ I H (.refl s) .ofint⟩
    · cases e
  | [.lst xs], e =>
    obtain ⟨v, rfl, h1⟩ := redl1 h
    cases e
    obtain ⟨a, ys, rfl, hq, r⟩ := h1.lst_inv s
    exact .inl ⟨_, xs.length, rfl, .inl ⟨ys, .of hq, r.len.symm⟩, q _ I H (.refl s) .ofint⟩
  | [.tup xs], e =>
    obtain ⟨v, rfl, h1⟩ := redl1 h
    cases e
    obtain ⟨a, ys, rfl, hq, r⟩ := h1.tup_inv s
    exact .inl ⟨_, xs.length, rfl, .inr ⟨ys, by rw [← hK]; exact hq, r.len.symm⟩, q _ I H (.refl s) .ofint⟩
  | [.frl xs], e =>
    obtain ⟨v, rfl, h1⟩ := redl1 h
    cases e
    obtain ⟨a, ys, rfl, hq, r⟩ := h1.frl_inv s
    exact .inl ⟨_, xs.length, rfl, .inl ⟨ys, by rw [← hK]; exact hq, r.len.symm⟩, q _ I H (.refl s) .ofint⟩
  | [.dk ks ws], e =>
    obtain ⟨v, rfl, h1⟩ := redl1 h
    cases e
    obtain ⟨a, kvs, rfl, hq, hk, r⟩ := h1.dk_inv s
    have hl := congrArg List.length hk
    simp only [List.length_map] at hl
    exact .inr ⟨a, kvs, rfl, hq, by rw [hl]; exact q _ I H (.refl s) .ofint⟩
theorem de_len (hm : X.mg "len" = none) (ha : DA T X E [e] fa) (hg : Gl X "len" := by rfl) (hK : T.K = X.K := by rfl) (he : starEach [e] X.env = (false, eval e X.env) :: starEach [] X.env := by rfl) : DE T X E (.Call (.Name "len" p) [e] [] pos) (biF lenD fa) :=
  de_biB (call_len.or call_lenR) (g_len hK) hm ha hg (by rfl) (by decide) (by decide) he

/-! ### int, abs, str, bool -/
def intD : List D → Option D
  | [.int i] => some (.int i)
  | [.bl k] => some (.int (if k then 1 else 0))
  | _ => none
theorem g_int : GC T (fun xs H Q => (∃ i, xs = [.int i] ∧ Q (.int i) H) ∨ ∃ k, xs = [.bl k] ∧ Q (.int (if k then 1 else 0)) H) intD := by
  intro I H ds vs d Q s h e q
  match ds, e with
  | [.int i], e =>
    obtain ⟨v, rfl, h1⟩ := redl1 h
    cases e
    rw [h1.int_inv]
    exact .inl ⟨i, rfl, q _ I H (.refl s) .ofint⟩
  | [.bl k], e =>
    obtain ⟨v, rfl, h1⟩ := redl1 h
    cases e
    rw [h1.bl_inv]
    exact .inr ⟨k, rfl, q _ I H (.refl s) .ofint⟩
theorem de_intC (hm : X.mg "int" = none) (ha : DA T X E [e] fa) (hg : Gl X "int" := by rfl) (he : starEach [e] X.env = (false, eval e X.env) :: starEach [] X.env := by rfl) : DE T X E (.Call (.Name "int" p) [e] [] pos) (biF intD fa) :=
  de_biT call_int1 g_int hm ha hg (by rfl) (by decide) (by decide) he
def absD : List D → Option D
  | [.int i] => some (.int (if i < 0 then -i else i))
  | _ => none
theorem g_abs : GC T (fun xs H Q => ∃ i, xs = [.int i] ∧ Q (.int (if i < 0 then -i else i)) H) absD := by
  intro I H ds vs d Q s h e q
  match ds, e with
  | [.int i], e =>
    obtain ⟨v, rfl, h1⟩ := redl1 h
    cases e
    rw [h1.int_inv]
    exact ⟨i, rfl, q _ I H (.refl s) .ofint⟩
theorem de_abs (hm : X.mg "abs" = none) (ha : DA T X E [e] fa) (hg : Gl X "abs" := by rfl) (he : starEach [e] X.env = (false, eval e X.env) :: starEach [] X.env := by rfl) : DE T X E (.Call (.Name "abs" p) [e] [] pos) (biF absD fa) :=
  de_biB call_abs g_abs hm ha hg (by rfl) (by decide) (by decide) he

/-! ### any, all of a list of truths -/
def blsD : List D → Option (List Bool)
  | [] => some []
  | .bl b :: r => (blsD r).map (b :: ·)
  | _ => none
theorem bls_map : ∀ {ds : List D} {bs : List Bool}, blsD ds = some bs → ds = bs.map .bl
  | [], bs, h => by cases h; rfl
  | .bl b :: r, bs, h => by
    simp only [blsD, Option.map_eq_some_iff] at h
    obtain ⟨cs, h1, rfl⟩ := h
    rw [bls_map h1]
    rfl
@[simp] theorem bls_of (bs : List Bool) : blsD (bs.map .bl) = some bs := by
  induction bs with
  | nil => rfl
  | cons b bs ih => simp only [List.map_cons, blsD, ih, Option.map_some]
theorem reps_bls {I : Hp} : ∀ {bs : List Bool} {vs : List V}, Reps T I (bs.map .bl) vs → vs = bs.map V.bl
  | [], vs, h => h.nil_inv
  | b :: bs, vs, h => by
    obtain ⟨v, r, rfl, h1, h2⟩ := h.cons_inv
    rw [h1.bl_inv, reps_bls h2]
    rfl
def anyD : List D → Option D
  | [.lst xs] => (blsD xs).map fun bs => .bl (bs.any id)
  | _ => none
def allD : List D → Option D
  | [.lst xs] => (blsD xs).map fun bs => .bl (bs.all id)
  | _ => none
theorem g_any (hK : T.K = X.K) : GC T (rAny X.K) anyD := by
  intro I H ds vs d Q s h e q
  match ds, e with
  | [.lst xs], e =>
    obtain ⟨v, rfl, h1⟩ := redl1 h
    simp only [anyD, Option.map_eq_some_iff] at e
    obtain ⟨bs, e1, rfl⟩ := e
    have := bls_map e1
    subst this
    obtain ⟨a, ys, rfl, hq, r⟩ := h1.lst_inv s
    exact ⟨a, bs, rfl, by rw [← reps_bls r]; exact .of hq, q _ I H (.refl s) .ofbl⟩
theorem g_all (hK : T.K = X.K) : GC T (rAll X.K) allD := by
  intro I H ds vs d Q s h e q
  match ds, e with
  | [.lst xs], e =>
    obtain ⟨v, rfl, h1⟩ := redl1 h
    simp only [allD, Option.map_eq_some_iff] at e
    obtain ⟨bs, e1, rfl⟩ := e
    have := bls_map e1
    subst this
    obtain ⟨a, ys, rfl, hq, r⟩ := h1.lst_inv s
    exact ⟨a, bs, rfl, by rw [← reps_bls r]; exact .of hq, q _ I H (.refl s) .ofbl⟩
theorem de_any (hm : X.mg "any" = none) (ha : DA T X E [e] fa) (hg : Gl X "any" := by rfl) (hc : X.calm = true := by rfl) (hK : T.K = X.K := by rfl) (he : starEach [e] X.env = (false, eval e X.env) :: starEach [] X.env := by rfl) : DE T X E (.Call (.Name "any" p) [e] [] pos) (biF anyD fa) :=
  de_biB (cr_any hc) (g_any hK) hm ha hg (by rfl) (by decide) (by decide) he
theorem de_all (hm : X.mg "all" = none) (ha : DA T X E [e] fa) (hg : Gl X "all" := by rfl) (hc : X.calm = true := by rfl) (hK : T.K = X.K := by rfl) (he : starEach [e] X.env = (false, eval e X.env) :: starEach [] X.env := by rfl) : DE T X E (.Call (.Name "all" p) [e] [] pos) (biF allD fa) :=
  de_biB (cr_all hc) (g_all hK) hm ha hg (by rfl) (by decide) (by decide) he
end
end DE
set_option Elab.async false
set_option linter.all false
set_option maxRecDepth 100000
set_option maxHeartbeats 2000000
namespace DE
open PySem PySem.Spec PyProof.Rows L2

/-! ### sorted of whatever can be walked -/
section
open Srt SrtO
variable {prog : Program} {w : World} {A : Around} {E : Value → Shared → Prop} {s : Shared}
theorem sorted_col {v : Value} {ltv : Value → Value → Bool} {P : List Value → Prop} {Q : Value → Shared → Prop} (O : Swo ltv)
    (hP : ∀ vs, P vs → vs.length ≤ sizeLine ∧ (2 ≤ vs.length → ∀ (s' : Shared) (a : Addr), SortableO prog w A.in1.in1 s' a vs ltv))
    (hcol : ∀ (A' : Around) (E' : Value → Shared → Prop) (R : List Value → Shared → Prop), A'.handled = A.handled → (∀ vs h' tk, P vs → (∀ b o, s.heap.get? b = some o → h'.get? b = some o) → R vs { s with heap := h', toks := tk }) → wpAny (model prog w) A' (collect v) R E' s)
    (h : ∀ (vs out : List Value) (h1 h' : Heap) (tk ep : Nat), P vs → Srtd ltv out → Stb ltv out vs → (∀ b o, s.heap.get? b = some o → h1.get? b = some o) → (∀ b o, h1.get? b = some o → h'.get? b = some o) → h'.get? h1.objs.size = some (seqObj "list" out.toArray ep) → Q (.ref h1.objs.size) { s with heap := h', toks := tk }) :
    wpAny (model prog w) A (call (.builtin "sorted") [v]) Q E s := by
  refine Calls.call_function_entry kind_sorted plain_sorted entry_sorted (args_sorted1 _) ?_
  unfold Builtin.«sorted»
  refine wpAny_bind (m := checkCount "sorted" 1 1 _) (wpAny_pure ?_)
  refine wpAny_bind (hcol _ _ _ rfl fun vs h1 tk hp hk => ?_)
  obtain ⟨hz, hS⟩ := hP vs hp
  refine wpAny_bind (wpAny_newList ?_ hz)
  have hoL : (h1.push (seqObj "list" vs.toArray 0)).get? h1.objs.size = some (seqObj "list" vs.toArray 0) := Heap.get?_push_size _ rfl
  refine wpAny_bind (wpAny_holding (wpAny_call_entry slot_list_sort ⟨_, hoL, rfl⟩ entry_list_sort (list_sort_ord O hoL hz (fun h2 => hS h2 _ _) fun out hs hb => ⟨_, rfl, ?_⟩) (args_list_sort _)))
  obtain ⟨ep, he⟩ := PyProof.Rows.sortedHeap_at (vs := vs) (out := out.toArray) hoL
  refine wpAny_pure ⟨_, rfl, h vs out h1 _ tk ep hp hs hb hk (fun b o e => ?_) he⟩
  have hpsh : (h1.push (seqObj "list" vs.toArray 0)).get? b = some o := Heap.get?_push_of_some _ e
  rw [PyProof.Rows.sortedHeap_old (Nat.ne_of_lt (Heap.lt_size e)) (Heap.lt_size hpsh)]
  exact hpsh
/-! texts in their order -/
def sv : Value → List Nat
  | .str x _ => x.cps.toList
  | _ => []
def ltSv (v u : Value) : Bool := decide (sv v < sv u)
theorem swo_str : Swo ltSv := by
  refine ⟨fun x y h => ?_, fun x y z h1 h2 => ?_⟩
  · have a := of_decide_eq_true (p := sv x < sv y) h
    exact decide_eq_false (p := sv y < sv x) (List.lt_asymm a)
  · have a := of_decide_eq_false (p := sv y < sv x) h1
    have b := of_decide_eq_false (p := sv z < sv y) h2
    refine decide_eq_false (p := sv z < sv x) fun c => ?_
    exact absurd c (List.not_lt.mpr (List.le_trans (List.not_lt.mp a) (List.not_lt.mp b)))
theorem str_cmp {vs : List Value} {ss : List Str} (hI : StrsAre vs ss) : Cmp prog w A s oneType' (fun p => p.1 ∈ vs) (lt2 ltSv) := by
  intro p q hm hm'
  obtain ⟨a, t, e⟩ := hI.all _ hm
  obtain ⟨b, u, e'⟩ := hI.all _ hm'
  show wpAny (model prog w) A (keyLt' oneType' p.1 q.1) (fun r s' => s' = s ∧ r = ltSv p.1 q.1) (fun _ _ => False) s
  rw [e, e', keyLt'_oneType]
  exact oneLt_str ⟨rfl, rfl⟩
theorem strs_sortable {a : Addr} {vs : List Value} {ss : List Str} (hI : StrsAre vs ss) (h2 : 2 ≤ vs.length) : SortableO prog w A s a vs ltSv := by
  intro h' _
  refine ⟨oneType', fun Q E hq => ?_, str_cmp hI⟩
  match vs, ss, hI, h2 with
  | v1 :: v2 :: rest, _, hI, _ =>
    rw [keyKind_strs hI]
    exact wpAny_pure hq
  | [], _, _, h => exact absurd h (by decide)
  | [v], _, _, h => exact absurd h (by simp)
theorem strs_out {vs out : List Value} {ss : List Str} (hI : StrsAre vs ss) (hs : Srtd ltSv out) (hb : Stb ltSv out vs) : StrsAre out (out.map strOf) ∧ (out.map strOf).Perm ss ∧ (out.map strOf).Pairwise (fun a b => ¬ b.cps.toList < a.cps.toList) := by
  have hm : ∀ v ∈ out, ∃ x t, v = Value.str x t := fun v hv => hI.all v (hb.perm.mem_iff.mp hv)
  refine ⟨strsAre_map _ hm, ?_, ?_⟩
  · have q := hb.perm.map strOf
    rw [hI.strs] at q
    exact q
  · refine List.pairwise_map.mpr ?_
    refine List.Pairwise.imp_of_mem ?_ hs
    intro x y hx hy h
    obtain ⟨a, t, rfl⟩ := hm x hx
    obtain ⟨b, u, rfl⟩ := hm y hy
    exact of_decide_eq_false h
end
/-! ### the items of a value that can be walked -/
def WalkV (K : PySem.W.Frag) (H : Hp) (v : V) (xs : List V) : Prop :=
  (∃ a, v = .ref a ∧ (SqL K H a xs ∨ SqT K H a xs)) ∨ ∃ z : Str, v = .str z ∧ z.length ≤ sizeLine ∧ xs = z.cps.toList.map fun c => V.str ⟨#[c]⟩
theorem vals_of_items {x : Str} {acc : Array Value} (h : ItemsOf (SignAt x) acc x.cps.size) : Vals (x.cps.toList.map fun c => V.str ⟨#[c]⟩) acc.toList := by
  have key : ∀ (n : Nat) (l : List Nat) (a : List Value), l.length = n → a.length = n → (∀ (j : Nat) (v : Value), a[j]? = some v → ∃ (c : Nat) (u : Tok), l[j]? = some c ∧ v = Value.str ⟨#[c]⟩ u) → Vals (l.map fun c => V.str ⟨#[c]⟩) a := by
    intro n
    induction n with
    | zero =>
      intro l a h1 h2 _
      cases l with
      | nil => cases a with
        | nil => exact .nil
        | cons _ _ => cases h2
      | cons _ _ => cases h1
    | succ n ih =>
      intro l a h1 h2 hj
      cases l with
      | nil => cases h1
      | cons c l =>
        cases a with
        | nil => cases h2
        | cons v a =>
          obtain ⟨c', u, e1, e2⟩ := hj 0 v rfl
          have e1 : c = c' := by simpa using e1
          subst e1
          refine .cons ⟨u, e2⟩ (ih l a (by simpa using h1) (by simpa using h2) fun j v e => ?_)
          exact hj (j + 1) v (by simpa using e)
  refine key x.cps.size _ _ (by simp) (by simpa using h.1) fun j v e => ?_
  obtain ⟨c, u, e1, e2⟩ := h.2 j v (by simpa using e)
  exact ⟨c, u, by simpa using e1, e2⟩
section
variable {X : Cx} {pins : List (Addr × Obj)} {σ : L2.St} {H : Hp} {s : Shared}
theorem walk_collect (I : Inv X pins σ H s) {v : V} {u : Value} {xs : List V} (wv : WalkV X.K H v xs) (rv : RelV v u) {A' : Around} (hh : A'.handled = none) (E' : Value → Shared → Prop) (R : List Value → Shared → Prop)
    (h : ∀ vs h' tk, Vals xs vs → (∀ b o, s.heap.get? b = some o → h'.get? b = some o) → R vs { s with heap := h', toks := tk }) : xs.length ≤ sizeLine ∧ wpAny (model X.prog X.w) A' (collect u) R E' s := by
  rcases wv with ⟨a, rfl, hq | hq⟩ | ⟨z, rfl, hz, rfl⟩
  · cases rv
    obtain ⟨its, r', pl, hz⟩ := I.list hq
    have hlen := r'.length
    obtain ⟨o, ho, hc, n, hd⟩ := pl.isList
    refine ⟨hz, wpAny_collect_seq a (.inl rfl) ho hc hd (fun h' kp => ?_) (by simp only [List.size_toArray] <;> omega)⟩
    exact h _ h' s.toks r' kp
  · cases rv
    obtain ⟨its, r', pl, hz⟩ := I.tuple hq
    have hlen := r'.length
    obtain ⟨o, ho, hc, n, hd⟩ := pl
    refine ⟨hz, wpAny_collect_seq a (.inr rfl) ho hc hd (fun h' kp => ?_) (by simp only [List.size_toArray] <;> omega)⟩
    exact h _ h' s.toks r' kp
  · obtain ⟨t, rfl⟩ := rv
    have hz' : z.cps.size ≤ sizeLine := hz
    refine ⟨by simpa using hz', wpAny_collect_str hh z t (fun s' acc k g d o hacc => ?_) hz'⟩
    have e : s' = { s with heap := s'.heap, toks := s'.toks } := by
      cases s'
      cases s
      cases g
      cases d
      cases o
      rfl
    rw [e]
    exact h _ _ _ (vals_of_items hacc) k
def rSortW (K : PySem.W.Frag) : List V → Hp → VK → Prop := fun vs H Q => ∃ v xs, vs = [v] ∧ WalkV K H v xs ∧
  ((∃ ss : List Str, xs = ss.map V.str ∧ ∀ (ys : List Str) (p : Addr), ys.Perm ss → ys.Pairwise (fun a b => ¬ b.cps.toList < a.cps.toList) → H p = none → Q (.ref p) (upd H p (.lst (ys.map V.str)))) ∨
   ∃ ns : List Int, xs = ns.map V.int ∧ ∀ (ms : List Int) (p : Addr), ms.Perm ns → ms.Pairwise (· ≤ ·) → H p = none → Q (.ref p) (upd H p (.lst (ms.map V.int))))
theorem cr_sortedW (hc : X.calm = true) : CallR X (.builtin "sorted") (rSortW X.K) := by
  intro pins s σ H vs us Q I r h
  obtain ⟨v, xs, rfl, wv, h⟩ := h
  obtain ⟨u, rfl, ru⟩ := vals1 r
  have hz : xs.length ≤ sizeLine := (walk_collect (A' := X.A) I wv ru (I.ok.hd hc) (fun _ _ => True) (fun _ _ => True) fun _ _ _ _ _ => trivial).1
  rcases h with ⟨ss, rfl, q⟩ | ⟨ns, rfl, q⟩
  · refine sorted_col (P := fun vs => Vals (ss.map V.str) vs) swo_str (fun vs hv => ⟨by rw [← hv.length]; exact hz, fun h2 s' a => strs_sortable hv.strs h2⟩) (fun A' E' R hA hR => (walk_collect I wv ru (hA.trans (I.ok.hd hc)) E' R hR).2) fun vs out h1 h' tk ep hv hs hb hk1 hk2 he => ?_
    obtain ⟨k1, k2, k3⟩ := strs_out hv.strs hs hb
    have I1 : Inv X pins σ H { s with heap := h1 } := I.kept (t' := s.toks) hk1
    have hlen : ((out.map strOf).map V.str).length ≤ sizeLine := by
      rw [List.length_map] at hz ⊢
      rw [k2.length_eq]
      exact hz
    exact ⟨.ref _, upd H h1.objs.size (.lst ((out.map strOf).map V.str)), I1.laid (t' := tk) hk2 (Nat.le_refl _) ⟨hlen, out, ep, vals_of_strs k1, he⟩, rfl, q _ _ k2 k3 (I1.hok.fresh (Nat.le_refl _))⟩
  · refine sorted_col (P := fun vs => Vals (ns.map V.int) vs) SrtO.swo_int (fun vs hv => ⟨by rw [← hv.length]; exact hz, fun h2 s' a => SrtO.ints_sortable hv.ints h2⟩) (fun A' E' R hA hR => (walk_collect I wv ru (hA.trans (I.ok.hd hc)) E' R hR).2) fun vs out h1 h' tk ep hv hs hb hk1 hk2 he => ?_
    obtain ⟨k1, k2, k3⟩ := SrtO.ints_out hv.ints hs hb
    have I1 : Inv X pins σ H { s with heap := h1 } := I.kept (t' := s.toks) hk1
    have hlen : ((out.map SrtO.iv).map V.int).length ≤ sizeLine := by
      rw [List.length_map] at hz ⊢
      rw [k2.length_eq]
      exact hz
    exact ⟨.ref _, upd H h1.objs.size (.lst ((out.map SrtO.iv).map V.int)), I1.laid (t' := tk) hk2 (Nat.le_refl _) ⟨hlen, out, ep, vals_of_ints k1, he⟩, rfl, q _ _ k2 k3 (I1.hok.fresh (Nat.le_refl _))⟩
/-- list(..) of a text, tuple(..) of a text -/
theorem call_list_txt (hc : X.calm = true) : CallR X (.type "list") (fun xs H Q => ∃ z : Str, xs = [.str z] ∧ z.length ≤ sizeLine ∧ ∀ l, H l = none → Q (.ref l) (upd H l (.lst (z.cps.toList.map fun c => V.str ⟨#[c]⟩)))) := by
  intro pins s σ H xs us Q I r h
  obtain ⟨z, rfl, hz, q⟩ := h
  obtain ⟨u, rfl, t, rfl⟩ := vals1 r
  have hz' : z.cps.size ≤ sizeLine := hz
  refine call_list_str (I.ok.hd hc) z t (fun h' tk acc c' k e hacc => ?_) hz'
  have hlen : (z.cps.toList.map fun c => V.str ⟨#[c]⟩).length ≤ sizeLine := by simpa using hz'
  exact ⟨.ref _, _, I.laid (t' := tk) k (Nat.le_refl _) (show ObjOk X.prog X.w _ h' _ (.lst _) from ⟨hlen, acc.toList, c', vals_of_items hacc, by simpa using e⟩), rfl, q _ (I.hok.fresh (Nat.le_refl _))⟩
theorem call_tuple_txt (hc : X.calm = true) : CallR X (.type "tuple") (fun xs H Q => ∃ z : Str, xs = [.str z] ∧ z.length ≤ sizeLine ∧ ∀ l, H l = none → Q (.ref l) (upd H l (.tup (z.cps.toList.map fun c => V.str ⟨#[c]⟩)))) := by
  intro pins s σ H xs us Q I r h
  obtain ⟨z, rfl, hz, q⟩ := h
  obtain ⟨u, rfl, t, rfl⟩ := vals1 r
  have hz' : z.cps.size ≤ sizeLine := hz
  refine call_tuple_str (I.ok.hd hc) z t (fun h1 tk acc k hacc => ?_) hz'
  have hlen : (z.cps.toList.map fun c => V.str ⟨#[c]⟩).length ≤ sizeLine := by simpa using hz'
  have I1 : Inv X pins σ H { s with heap := h1 } := I.kept (t' := s.toks) k
  exact ⟨.ref _, _, I1.laid (t' := tk) (fun b o e => Heap.get?_push_of_some _ e) (Nat.le_refl _) (show ObjOk X.prog X.w _ _ _ (.tup _) from ⟨hlen, acc.toList, vals_of_items hacc, by rw [Array.toArray_toList]; exact IsTup.new _ _⟩), rfl, q _ (I1.hok.fresh (Nat.le_refl _))⟩
end

/-! ### on data: sorted, list, tuple -/
def unS (x : Str) : List Ch := x.cps.toList.map fun n => if h : n < 1114112 then ⟨n, h⟩ else 0
theorem unS_mkS (l : List Ch) : unS (mkS l) = l := by
  unfold unS
  rw [mkS_cps, List.map_map]
  conv => rhs; rw [← List.map_id l]
  refine List.map_congr_left fun c _ => ?_
  simp only [Function.comp, c.2, dif_pos, id]
theorem perm_mkS {a b : List (List Ch)} (h : (a.map mkS).Perm (b.map mkS)) : a.Perm b := by
  have := h.map unS
  rw [List.map_map, List.map_map] at this
  have e : unS ∘ mkS = id := funext unS_mkS
  rwa [e, List.map_id, List.map_id] at this
def insB {α : Type} (le : α → α → Bool) (a : α) : List α → List α
  | [] => [a]
  | b :: r => if le a b then a :: b :: r else b :: insB le a r
def isort {α : Type} (le : α → α → Bool) : List α → List α
  | [] => []
  | a :: r => insB le a (isort le r)
theorem insB_perm {α : Type} (le : α → α → Bool) (a : α) : ∀ l : List α, (insB le a l).Perm (a :: l)
  | [] => .refl _
  | b :: r => by
    simp only [insB]
    split
    · exact .refl _
    · exact ((insB_perm le a r).cons b).trans (.swap _ _ _)
theorem isort_perm {α : Type} (le : α → α → Bool) : ∀ l : List α, (isort le l).Perm l
  | [] => .refl _
  | a :: r => (insB_perm le a _).trans ((isort_perm le r).cons a)
theorem insB_sorted {α : Type} {le : α → α → Bool} (ht : ∀ a b c, le a b = true → le b c = true → le a c = true) (hl : ∀ a b, le a b = true ∨ le b a = true) (a : α) : ∀ l : List α, l.Pairwise (fun x y => le x y = true) → (insB le a l).Pairwise (fun x y => le x y = true)
  | [], _ => by simp [insB]
  | b :: r, h => by
    obtain ⟨h1, h2⟩ := List.pairwise_cons.mp h
    simp only [insB]
    split
    · rename_i hab
      refine List.pairwise_cons.mpr ⟨fun x hx => ?_, h⟩
      rcases List.mem_cons.mp hx with rfl | hx
      · exact hab
      · exact ht _ _ _ hab (h1 x hx)
    · rename_i hab
      have hba : le b a = true := (hl a b).resolve_left hab
      refine List.pairwise_cons.mpr ⟨fun x hx => ?_, insB_sorted ht hl a r h2⟩
      rcases List.mem_cons.mp ((insB_perm le a r).mem_iff.mp hx) with rfl | hx
      · exact hba
      · exact h1 x hx
theorem isort_sorted {α : Type} {le : α → α → Bool} (ht : ∀ a b c, le a b = true → le b c = true → le a c = true) (hl : ∀ a b, le a b = true ∨ le b a = true) : ∀ l : List α, (isort le l).Pairwise (fun x y => le x y = true)
  | [] => .nil
  | a :: r => insB_sorted ht hl a _ (isort_sorted ht hl r)
theorem sorted_uniq {α : Type} {le : α → α → Bool} (ha : ∀ a b, le a b = true → le b a = true → a = b) : ∀ {l m : List α}, l.Perm m → l.Pairwise (fun x y => le x y = true) → m.Pairwise (fun x y => le x y = true) → l = m
  | l, m, hp, h1, h2 => List.Perm.eq_of_pairwise (fun a b _ _ => ha a b) h1 h2 hp
def leI (a b : Int) : Bool := decide (a ≤ b)
def leS (a b : List Ch) : Bool := !decide (b < a)
theorem leI_t (a b c : Int) (h : leI a b = true) (h' : leI b c = true) : leI a c = true := by
  simp only [leI, decide_eq_true_eq] at *
  omega
theorem leI_l (a b : Int) : leI a b = true ∨ leI b a = true := by
  simp only [leI, decide_eq_true_eq]
  omega
theorem leI_a (a b : Int) (h : leI a b = true) (h' : leI b a = true) : a = b := by
  simp only [leI, decide_eq_true_eq] at *
  omega
theorem leS_iff {a b : List Ch} : leS a b = true ↔ ¬ b < a := by simp [leS]
theorem leS_t (a b c : List Ch) (h : leS a b = true) (h' : leS b c = true) : leS a c = true := by
  rw [leS_iff] at *
  exact List.not_lt.mpr (List.le_trans (List.not_lt.mp h) (List.not_lt.mp h'))
theorem leS_l (a b : List Ch) : leS a b = true ∨ leS b a = true := by
  rw [leS_iff, leS_iff]
  by_cases h : b < a
  · exact .inr (List.lt_asymm h)
  · exact .inl h
theorem leS_a (a b : List Ch) (h : leS a b = true) (h' : leS b a = true) : a = b := by
  rw [leS_iff] at *
  exact List.le_antisymm (List.not_lt.mp h) (List.not_lt.mp h')
def sortS (ss : List (List Ch)) : List (List Ch) := isort leS ss
def sortI' (ns : List Int) : List Int := isort leI ns
def strsD : List D → Option (List (List Ch))
  | [] => some []
  | .str b :: r => (strsD r).map (b :: ·)
  | _ => none
def intsD : List D → Option (List Int)
  | [] => some []
  | .int b :: r => (intsD r).map (b :: ·)
  | _ => none
theorem strs_map : ∀ {ds : List D} {bs : List (List Ch)}, strsD ds = some bs → ds = bs.map .str
  | [], bs, h => by cases h; rfl
  | .str b :: r, bs, h => by
    simp only [strsD, Option.map_eq_some_iff] at h
    obtain ⟨cs, h1, rfl⟩ := h
    rw [strs_map h1]
    rfl
theorem ints_map : ∀ {ds : List D} {bs : List Int}, intsD ds = some bs → ds = bs.map .int
  | [], bs, h => by cases h; rfl
  | .int b :: r, bs, h => by
    simp only [intsD, Option.map_eq_some_iff] at h
    obtain ⟨cs, h1, rfl⟩ := h
    rw [ints_map h1]
    rfl
@[simp] theorem strs_of (bs : List (List Ch)) : strsD (bs.map .str) = some bs := by
  induction bs with
  | nil => rfl
  | cons b bs ih => simp only [List.map_cons, strsD, ih, Option.map_some]
@[simp] theorem ints_of (bs : List Int) : intsD (bs.map .int) = some bs := by
  induction bs with
  | nil => rfl
  | cons b bs ih => simp only [List.map_cons, intsD, ih, Option.map_some]
/-- what can be walked: its items, and that it is not too long -/
def walkD (d : D) : Option (List D) := match d with
  | .str z => if lim z.length then itemsD d else none
  | _ => itemsD d
section
variable {T : Ctx} {X : Cx} {E : XK} {e : Expr} {fa : FA} {p pos : Pos}
theorem reps_strs2 {I : Hp} : ∀ {ss : List (List Ch)} {vs : List V}, Reps T I (ss.map .str) vs → vs = (ss.map mkS).map V.str
  | [], vs, h => h.nil_inv
  | b :: bs, vs, h => by
    obtain ⟨v, r, rfl, h1, h2⟩ := h.cons_inv
    rw [h1.str_inv, reps_strs2 h2]
    rfl
theorem reps_ints {I : Hp} : ∀ {ss : List Int} {vs : List V}, Reps T I (ss.map .int) vs → vs = ss.map V.int
  | [], vs, h => h.nil_inv
  | b :: bs, vs, h => by
    obtain ⟨v, r, rfl, h1, h2⟩ := h.cons_inv
    rw [h1.int_inv, reps_ints h2]
    rfl
theorem strs_reps {I : Hp} : ∀ (ss : List (List Ch)), Reps T I (ss.map .str) ((ss.map mkS).map V.str)
  | [] => .nil
  | b :: bs => .cons .ofstr (strs_reps bs)
theorem ints_reps {I : Hp} : ∀ (ss : List Int), Reps T I (ss.map .int) (ss.map V.int)
  | [] => .nil
  | b :: bs => .cons .ofint (ints_reps bs)
theorem signs_eq (z : List Ch) : ((mkS z).cps.toList.map fun c => V.str ⟨#[c]⟩) = (((z.map fun c => [c]).map mkS).map V.str) := by
  simp only [mkS_cps, List.map_map]
  rfl
theorem walkV_of {K : PySem.W.Frag} (hK : T.K = K) {I H : Hp} (s : Same I H) {d : D} {v : V} {its : List D} (h : Red T I H d v) (e : walkD d = some its) : ∃ xs, WalkV K H v xs ∧ Reps T I its xs := by
  subst hK
  cases d with
  | lst ds =>
    cases e
    obtain ⟨a, ys, rfl, hq, r⟩ := h.lst_inv s
    exact ⟨ys, .inl ⟨a, rfl, .inl (.of hq)⟩, r⟩
  | tup ds =>
    cases e
    obtain ⟨a, ys, rfl, hq, r⟩ := h.tup_inv s
    exact ⟨ys, .inl ⟨a, rfl, .inr hq⟩, r⟩
  | frl ds =>
    cases e
    obtain ⟨a, ys, rfl, hq, r⟩ := h.frl_inv s
    exact ⟨ys, .inl ⟨a, rfl, .inl hq⟩, r⟩
  | str z =>
    simp only [walkD, itemsD] at e
    split at e
    · rename_i hl
      cases e
      rw [h.str_inv]
      refine ⟨_, .inr ⟨mkS z, rfl, by rw [mkS_length]; exact hl.le, rfl⟩, ?_⟩
      rw [signs_eq]
      have := strs_reps (T := T) (I := I) (z.map fun c => [c])
      rw [List.map_map] at this
      exact this
    · cases e
  | _ => cases e
def sortedD : List D → Option D
  | [d] => (walkD d).bind fun its => match strsD its with
    | some ss => some (.lst ((sortS ss).map .str))
    | none => (intsD its).map fun ns => .lst ((sortI' ns).map .int)
  | _ => none
theorem g_sorted (hK : T.K = X.K) : GCN T (rSortW X.K) sortedD := by
  intro I H ds vs d Q s h e q
  match ds, e with
  | [d0], e =>
    obtain ⟨v, rfl, h1⟩ := redl1 h
    simp only [sortedD, Option.bind_eq_some_iff] at e
    obtain ⟨its, e1, e2⟩ := e
    obtain ⟨xs, wv, r⟩ := walkV_of hK s h1 e1
    refine ⟨v, xs, rfl, wv, ?_⟩
    cases e3 : strsD its with
    | some ss =>
      rw [e3] at e2
      cases e2
      have := strs_map e3
      subst this
      refine .inl ⟨ss.map mkS, reps_strs2 r, fun ys p hp hs hn => ?_⟩
      have key : ys = (sortS ss).map mkS := by
        have hb : ∀ y ∈ ys, ∃ b, b ∈ ss ∧ mkS b = y := fun y hy => by simpa using hp.mem_iff.mp hy
        have hys : ∃ zs : List (List Ch), ys = zs.map mkS := by
          clear hp hs
          induction ys with
          | nil => exact ⟨[], rfl⟩
          | cons y ys ih =>
            obtain ⟨zs, rfl⟩ := ih fun y hy => hb y (List.mem_cons_of_mem _ hy)
            obtain ⟨b, _, rfl⟩ := hb y List.mem_cons_self
            exact ⟨b :: zs, rfl⟩
        obtain ⟨zs, rfl⟩ := hys
        have hp2 : zs.Perm ss := perm_mkS hp
        have hs2 : zs.Pairwise (fun a b => leS a b = true) := by
          refine (List.pairwise_map.mp hs).imp fun {a b} h => ?_
          rw [leS_iff]
          rw [mkS_cps, mkS_cps, lt_map] at h
          exact h
        rw [sorted_uniq (m := sortS ss) leS_a (hp2.trans (isort_perm _ _).symm) hs2 (isort_sorted leS_t leS_l ss)]
      rw [key]
      refine q p _ hn ⟨rfl, _, upd_same, ?_⟩
      exact strs_reps (sortS ss)
    | none =>
      rw [e3] at e2
      simp only [Option.map_eq_some_iff] at e2
      obtain ⟨ns, e4, rfl⟩ := e2
      have := ints_map e4
      subst this
      refine .inr ⟨ns, reps_ints r, fun ys p hp hs hn => ?_⟩
      have key : ys = sortI' ns := by
        refine sorted_uniq (m := sortI' ns) leI_a (hp.trans (isort_perm _ _).symm) (hs.imp fun {a b} h => ?_) (isort_sorted leI_t leI_l ns)
        simpa [leI] using h
      rw [key]
      refine q p _ hn ⟨rfl, _, upd_same, ?_⟩
      exact ints_reps (sortI' ns)
theorem dn_sorted (hm : X.mg "sorted" = none) (ha : DA T X E [e] fa) (hg : Gl X "sorted" := by rfl) (hc : X.calm = true := by rfl) (hK : T.K = X.K := by rfl) (he : starEach [e] X.env = (false, eval e X.env) :: starEach [] X.env := by rfl) : DN T X E (.Call (.Name "sorted" p) [e] [] pos) (biN sortedD fa) :=
  dn_biB (cr_sortedW hc) (g_sorted hK) hm ha hg (by rfl) (by decide) (by decide) he
theorem keys_reps {I : Hp} : ∀ ks : List DK, Reps T I (ks.map fun k => match k with | .i n => D.int n | .s x => .str x) ((ks.map kk).map kV)
  | [] => .nil
  | .i n :: ks => .cons .ofint (keys_reps ks)
  | .s x :: ks => .cons .ofstr (keys_reps ks)
def listD : List D → Option D
  | [.dk ks ws] => some (.lst (ks.map fun k => match k with | .i n => .int n | .s x => .str x))
  | [d] => (walkD d).map .lst
  | _ => none
def tupleD : List D → Option D
  | [d] => (walkD d).map .tup
  | _ => none
def rListR : List V → Hp → VK → Prop := fun xs H Q => ∃ p kvs, xs = [.ref p] ∧ Rd H p (.dK kvs) ∧ ∀ q, H q = none → Q (.ref q) (upd H q (.lst (kvs.map fun kv => kV kv.1)))
theorem call_list_dR {X : Cx} (hc : X.calm = true) : CallR X (.type "list") rListR := by
  intro pins s σ H xs us Q I r h
  obtain ⟨p, kvs, e, hk, q⟩ := h
  subst e
  obtain ⟨u, eu, rx⟩ := vals1 r
  subst eu
  obtain rfl : u = Value.ref p := rx
  obtain ⟨z, lo, vs, rk, hd⟩ := dk_rd (P := X.prog) (w := X.w) I.hok hk
  obtain ⟨ep, hat⟩ := hd.dictAt
  have hl : kvs.length = vs.length := Paired.length rk
  refine PySem.W.kdl_call (PySem.W.kdl_dict (knd := mixKind X.prog X.w) (kvs := vs) (ep := ep) lo) (I.ok.hd hc) hat (by rw [← hl]; exact z) fun h' tk acc' c' hkeep hS hacc => ?_
  refine ⟨.ref s.heap.objs.size, upd H s.heap.objs.size (.lst (kvs.map fun kv => kV kv.1)), I.laid hkeep (Nat.le_refl _) (show ObjOk X.prog X.w _ _ _ (.lst (kvs.map fun kv => kV kv.1)) from ⟨?_, acc'.toList, c', ?_, ?_⟩), rfl, q _ (I.hok.fresh (Nat.le_refl _))⟩
  · rw [List.length_map]; exact z
  · have el : acc'.toList.length = acc'.size := by simp
    refine vals_of_at (by rw [List.length_map, el, hacc.1, hl]) fun j x w h1 h2 => ?_
    obtain ⟨k, y, hky, hi⟩ := hacc.2 j w (by rw [← Array.getElem?_toList]; exact h2)
    have e1 : (kvs.map (·.1))[j]? = some k := by
      rw [KV.keys rk, List.getElem?_map, hky] <;> rfl
    have e2 : (kvs.map fun kv => kV kv.1)[j]? = some (kV k) := by
      have e3 : (kvs.map fun kv => kV kv.1) = (kvs.map (·.1)).map kV := by rw [List.map_map] <;> rfl
      rw [e3, List.getElem?_map, e1] <;> rfl
    rw [e2] at h1
    cases h1
    exact keyIs_rel hi
  · rw [Array.toArray_toList]; exact hS
def rListA (K : PySem.W.Frag) : List V → Hp → VK → Prop := fun xs H Q => (∃ p ys, xs = [.ref p] ∧ (SqL K H p ys ∨ SqT K H p ys) ∧ ∀ l, H l = none → Q (.ref l) (upd H l (.lst ys))) ∨
  ((∃ z : Str, xs = [.str z] ∧ z.length ≤ sizeLine ∧ ∀ l, H l = none → Q (.ref l) (upd H l (.lst (z.cps.toList.map fun c => V.str ⟨#[c]⟩)))) ∨ rListR xs H Q)
theorem g_list (hK : T.K = X.K) : GCN T (rListA X.K) listD := by
  intro I H ds vs d Q s h e q
  cases ds with
  | nil => cases e
  | cons d0 ds =>
  cases ds with
  | cons _ _ => simp [listD, tupleD] at e
  | nil =>
  cases d0 with
  | dk ks ws =>
    obtain ⟨v, rfl, h1⟩ := redl1 h
    cases e
    obtain ⟨a, kvs, rfl, hq, hk, r⟩ := h1.dk_inv s
    refine .inr (.inr ⟨a, kvs, rfl, hq, fun p hp => q p _ hp ⟨rfl, _, upd_same, ?_⟩⟩)
    have e1 : (kvs.map fun kv => kV kv.1) = (ks.map kk).map kV := by rw [← hk, List.map_map]; rfl
    rw [e1]
    exact keys_reps ks
  | lst xs =>
    obtain ⟨v, rfl, h1⟩ := redl1 h
    cases e
    obtain ⟨a, ys, rfl, hq, r⟩ := h1.lst_inv s
    exact .inl ⟨a, ys, rfl, .inl (.of hq), fun p hp => q p _ hp ⟨rfl, _, upd_same, r⟩⟩
  | tup xs =>
    obtain ⟨v, rfl, h1⟩ := redl1 h
    cases e
    obtain ⟨a, ys, rfl, hq, r⟩ := h1.tup_inv s
    exact .inl ⟨a, ys, rfl, .inr (by rw [← hK]; exact hq), fun p hp => q p _ hp ⟨rfl, _, upd_same, r⟩⟩
  | frl xs =>
    obtain ⟨v, rfl, h1⟩ := redl1 h
    cases e
    obtain ⟨a, ys, rfl, hq, r⟩ := h1.frl_inv s
    exact .inl ⟨a, ys, rfl, .inl (by rw [← hK]; exact hq), fun p hp => q p _ hp ⟨rfl, _, upd_same, r⟩⟩
  | str z =>
    obtain ⟨v, rfl, h1⟩ := redl1 h
    simp only [listD, walkD, itemsD] at e
    split at e
    · rename_i hl
      cases e
      rw [h1.str_inv]
      refine .inr (.inl ⟨mkS z, rfl, by rw [mkS_length]; exact hl.le, fun p hp => q p _ hp ⟨rfl, _, upd_same, ?_⟩⟩)
      rw [signs_eq]
      have := strs_reps (T := T) (I := I) (z.map fun c => [c])
      rw [List.map_map] at this
      exact this
    · cases e
  | _ => cases e
theorem dn_list (hm : X.mg "list" = none) (ha : DA T X E [e] fa) (hg : Gl X "list" := by rfl) (hc : X.calm = true := by rfl) (hK : T.K = X.K := by rfl) (he : starEach [e] X.env = (false, eval e X.env) :: starEach [] X.env := by rfl) : DN T X E (.Call (.Name "list" p) [e] [] pos) (biN listD fa) :=
  dn_biT (call_list_of.or ((call_list_txt hc).or (call_list_dR hc))) (g_list hK) hm ha hg (by rfl) (by decide) (by decide) he
def rTupA (K : PySem.W.Frag) : List V → Hp → VK → Prop := fun xs H Q => (∃ p ys, xs = [.ref p] ∧ ((SqL K H p ys ∧ ∀ l, H l = none → Q (.ref l) (upd H l (.tup ys))) ∨ (SqT K H p ys ∧ Q (.ref p) H))) ∨
  (∃ z : Str, xs = [.str z] ∧ z.length ≤ sizeLine ∧ ∀ l, H l = none → Q (.ref l) (upd H l (.tup (z.cps.toList.map fun c => V.str ⟨#[c]⟩))))
theorem g_tuple (hK : T.K = X.K) : GC T (rTupA X.K) tupleD := by
  intro I H ds vs d Q s h e q
  cases ds with
  | nil => cases e
  | cons d0 ds =>
  cases ds with
  | cons _ _ => simp [listD, tupleD] at e
  | nil =>
  cases d0 with
  | lst xs =>
    obtain ⟨v, rfl, h1⟩ := redl1 h
    cases e
    obtain ⟨a, ys, rfl, hq, r⟩ := h1.lst_inv s
    exact .inl ⟨a, ys, rfl, .inl ⟨.of hq, fun p hp => (new_tup s r hp).elim fun n rv => q _ _ _ n rv⟩⟩
  | tup xs =>
    obtain ⟨v, rfl, h1⟩ := redl1 h
    cases e
    have h2 := h1.tup_inv2
    obtain ⟨a, ys, rfl, hq, r⟩ := h1.tup_inv s
    exact .inl ⟨a, ys, rfl, .inr ⟨by rw [← hK]; exact hq, q _ I H (.refl s) h2⟩⟩
  | frl xs =>
    obtain ⟨v, rfl, h1⟩ := redl1 h
    cases e
    obtain ⟨a, ys, rfl, hq, r⟩ := h1.frl_inv s
    exact .inl ⟨a, ys, rfl, .inl ⟨by rw [← hK]; exact hq, fun p hp => (new_tup s r hp).elim fun n rv => q _ _ _ n rv⟩⟩
  | str z =>
    obtain ⟨v, rfl, h1⟩ := redl1 h
    simp only [tupleD, walkD, itemsD] at e
    split at e
    · rename_i hl
      cases e
      rw [h1.str_inv]
      refine .inr ⟨mkS z, rfl, by rw [mkS_length]; exact hl.le, fun p hp => ?_⟩
      have r := strs_reps (T := T) (I := I) (z.map fun c => [c])
      rw [List.map_map, ← signs_eq] at r
      exact (new_tup s r hp).elim fun n rv => q _ _ _ n rv
    · cases e
  | _ => cases e
theorem de_tuple (hm : X.mg "tuple" = none) (ha : DA T X E [e] fa) (hg : Gl X "tuple" := by rfl) (hc : X.calm = true := by rfl) (hK : T.K = X.K := by rfl) (he : starEach [e] X.env = (false, eval e X.env) :: starEach [] X.env := by rfl) : DE T X E (.Call (.Name "tuple" p) [e] [] pos) (biF tupleD fa) :=
  de_biT (call_tuple_of.or (call_tuple_txt hc)) (g_tuple hK) hm ha hg (by rfl) (by decide) (by decide) he
end
end DE
set_option Elab.async false
set_option linter.all false
set_option maxRecDepth 100000
set_option maxHeartbeats 2000000
namespace DE
open PySem PySem.Spec PyProof.Rows L2

/-! ### subscripts -/
def dkGet : List DK → List D → DK → Option D
  | k :: ks, v :: vs, x => if k = x then some v else dkGet ks vs x
  | _, _, _ => none
def ixD : D → D → Option D
  | .str z, .int i => if lim z.length then (atI z i).map fun c => .str [c] else none
  | .lst xs, .int i => atI xs i
  | .tup xs, .int i => atI xs i
  | .frl xs, .int i => atI xs i
  | .dk ks vs, .int i => dkGet ks vs (.i i)
  | .dk ks vs, .str x => dkGet ks vs (.s x)
  | _, _ => none
def rIxA (K : PySem.W.Frag) : R2 := fun x y H Q => rIx K x y H Q ∨ ∃ a v, x = .ref a ∧ DGet H a y (some v) ∧ Q v H
section
variable {T : Ctx} {X : Cx} {E : XK} {e a b : Expr} {es : List Expr} {fa fb fo : FE} {fs : FA} {p pos : Pos}
theorem ix_dictK (hu : X.A.units + 1 < cLine) : IxR X (fun x y H Q => ∃ a v, x = .ref a ∧ DGet H a y (some v) ∧ Q v H) := by
  intro value slice pins s σ H x y v u Q I rx ry h hs
  obtain ⟨a, r, rfl, g, q⟩ := h
  obtain rfl : v = Value.ref a := rx
  exact tail_any (dict_typeIs I g) PySem.F.slot_dict_getitem.lookup (d_getItem hu I g ry fun w' s3 I3 rw' => ⟨r, H, I3, rw', q⟩) hs
theorem atI_map {α β : Type} (f : α → β) (xs : List α) (i : Int) : atI (xs.map f) i = (atI xs i).map f := by
  unfold atI
  rw [List.length_map]
  cases ixN xs.length i with
  | none => rfl
  | some j => simp
theorem reps_atI {I : Hp} {ds : List D} {xs : List V} {i : Int} {d : D} (r : Reps T I ds xs) (h : atI ds i = some d) : ∃ v, atI xs i = some v ∧ Rep T I d v := by
  unfold atI at h ⊢
  rw [r.len]
  cases q : ixN ds.length i with
  | none => rw [q] at h; cases h
  | some j =>
    rw [q] at h
    exact r.get h
theorem kk_inj {a b : DK} : kk a = kk b ↔ a = b := by
  constructor
  · intro h
    cases a with
    | i n => cases b with
      | i m => have : n = m := by injection h
               rw [this]
      | s y => cases h
    | s x => cases b with
      | i m => cases h
      | s y =>
        have : mkS x = mkS y := by injection h
        rw [mkS_inj this]
  · intro h; rw [h]
theorem dk_get {I : Hp} {x : DK} {d : D} : ∀ {ks : List DK} {ds : List D} {kvs : List (Key × V)}, kvs.map (·.1) = ks.map kk → Reps T I ds (kvs.map (·.2)) → dkGet ks ds x = some d → ∃ v, valV kvs (kk x) = some v ∧ Rep T I d v
  | [], ds, kvs, _, _, h => by simp [dkGet] at h
  | k :: ks, [], kvs, _, _, h => by simp [dkGet] at h
  | k :: ks, d' :: ds, [], hk, _, h => by cases hk
  | k :: ks, d' :: ds, kv :: kvs, hk, r, h => by
    simp only [List.map_cons, List.cons.injEq] at hk
    obtain ⟨v, vr, e, r1, r2⟩ := r.cons_inv
    simp only [List.map_cons, List.cons.injEq] at e
    obtain ⟨rfl, rfl⟩ := e
    simp only [dkGet] at h
    split at h
    · rename_i hx
      cases h
      exact ⟨kv.2, valV_pos (by rw [hk.1, hx]), r1⟩
    · rename_i hx
      obtain ⟨v, h1, h2⟩ := dk_get hk.2 r2 h
      exact ⟨v, by rw [valV_neg (by rw [hk.1]; exact fun z => hx (kk_inj.mp z))]; exact h1, h2⟩
theorem g_ix (hK : T.K = X.K) : G2 T (rIxA X.K) ixD := by
  intro I H d1 d2 d v1 v2 Q s h1 h2 e q
  cases d2 with
  | int i =>
    have e2 := h2.int_inv
    subst e2
    cases d1 with
    | str z =>
      simp only [ixD] at e
      split at e
      · rename_i hl
        simp only [Option.map_eq_some_iff] at e
        obtain ⟨c, e1, rfl⟩ := e
        rw [h1.str_inv]
        refine .inl (.inr (.inr ⟨mkS z, i, c.val, rfl, rfl, by rw [mkS_length]; exact hl.le, ?_, q _ I H (.refl s) .ofstr⟩))
        rw [mkS_cps, atI_map, e1]
        rfl
      · cases e
    | lst xs =>
      obtain ⟨p, ys, rfl, hq, r⟩ := h1.lst_inv s
      obtain ⟨v, e1, r1⟩ := reps_atI r e
      exact .inl (.inl ⟨p, ys, i, v, rfl, rfl, .of hq, e1, q _ I H (.refl s) r1⟩)
    | tup xs =>
      obtain ⟨p, ys, rfl, hq, r⟩ := h1.tup_inv s
      obtain ⟨v, e1, r1⟩ := reps_atI r e
      exact .inl (.inr (.inl ⟨p, ys, i, v, rfl, rfl, by rw [← hK]; exact hq, e1, q _ I H (.refl s) r1⟩))
    | frl xs =>
      obtain ⟨p, ys, rfl, hq, r⟩ := h1.frl_inv s
      obtain ⟨v, e1, r1⟩ := reps_atI r e
      exact .inl (.inl ⟨p, ys, i, v, rfl, rfl, by rw [← hK]; exact hq, e1, q _ I H (.refl s) r1⟩)
    | dk ks vs =>
      obtain ⟨p, kvs, rfl, hq, hk, r⟩ := h1.dk_inv s
      obtain ⟨v, e1, r1⟩ := dk_get hk r e
      refine .inr ⟨p, v, rfl, ?_, q _ I H (.refl s) r1⟩
      exact .inl ⟨kvs, kk (.i i), hq, rfl, e1.symm⟩
    | _ => cases e
  | str x =>
    have e2 := h2.str_inv
    subst e2
    cases d1 with
    | dk ks vs =>
      obtain ⟨p, kvs, rfl, hq, hk, r⟩ := h1.dk_inv s
      obtain ⟨v, e1, r1⟩ := dk_get hk r e
      refine .inr ⟨p, v, rfl, ?_, q _ I H (.refl s) r1⟩
      exact .inl ⟨kvs, kk (.s x), hq, rfl, e1.symm⟩
    | _ => cases e
  | _ => cases d1 <;> cases e
theorem units1 {k : Nat} {A : Around} (r : Room k A) : A.units + 1 < cLine := by have := r.un; omega
theorem de_ix {k : Nat} (hr : Room k X.A) (ha : DE T X E a fa) (hb : DE T X E b fb) (hs : PlainIx b := by intro _ _; rfl) (hK : T.K = X.K := by rfl) : DE T X E (.Subscript a b pos) (op2F ixD fa fb) :=
  PE.of (pe_ix (ix_seq.or (ix_dictK (units1 hr))) ha hb hs) fun _ _ _ h => tOp_of (g_ix hK) h

/-! ### slices -/
abbrev FO := Dl → Out (Option Int × Dl)
def tO (T : Ctx) (E : XK) (f : FO) : TO := fun σ H Q => ∃ M A I δ, Ok T M A I σ H δ ∧ Wants T M E (f δ) fun (o, δ') => ∀ I' H', Ok T M A I' σ H' δ' → Stp A δ I H δ' I' H' → Q o H'
abbrev DO (T : Ctx) (X : Cx) (E : XK) (e : Option Expr) (f : FO) : Prop := PO X e (tO T E f)
def noO : FO := fun δ => .ok (none, δ)
def someO (f : FE) : FO := fun δ => do
  let (r, δ1) ← f δ
  match r with
  | .imm (.int i) => pure (some i, δ1)
  | _ => .stuck
theorem PO.of' {e : Option Expr} {t t' : TO} (h : PO X e t) (w : ∀ σ H Q, t' σ H Q → t σ H Q) : PO X e t' := ⟨fun pins s σ H Q I q => h.run pins s σ H Q I (w _ _ _ q)⟩
theorem do_none : DO T X E none noO := PO.of' po_none fun σ H Q ⟨M, A, I, δ, ok, w⟩ => w I H ok .refl
theorem do_some {f : FE} (h : DE T X E e f) : DO T X E (some e) (someO f) := PO.of' (po_some h) fun σ H Q ⟨M, A, I, δ, ok, w⟩ => ⟨M, A, I, δ, ok, w.bind.imp fun (r1, δ1) e1 w1 v1 I1 H1 ok1 st1 rr1 => by
  cases r1 with
  | slot i => exact w1.elim
  | imm d =>
    cases d with
    | int k => exact ⟨k, rr1.get.int_inv, w1 I1 H1 ok1 st1⟩
    | _ => exact w1.elim⟩
def cutL {α : Type} (xs : List α) (lo hi : Option Int) : List α := (xs.drop (HT.sIx xs.length 0 lo)).take (HT.sIx xs.length xs.length hi - HT.sIx xs.length 0 lo)
def cutD : D → Option Int → Option Int → Option D
  | .str z, lo, hi => if lim z.length then some (.str (cutL z lo hi)) else none
  | .tup xs, lo, hi => some (.tup (cutL xs lo hi))
  | _, _, _ => none
/-- a cut of a list: a fresh one -/
def cutLD : D → Option Int → Option Int → Option D
  | .lst xs, lo, hi => some (.lst (cutL xs lo hi))
  | .frl xs, lo, hi => some (.lst (cutL xs lo hi))
  | _, _, _ => none
def slF (f : FE) (l u : FO) : FE := fun δ => do
  let (r, δ1) ← f δ
  let (lo, δ2) ← l δ1
  let (hi, δ3) ← u δ2
  let d ← res δ3 r
  match cutLD d lo hi with
  | some d' => pure (.imm d', δ3)
  | none => do
    let d' ← ofO (cutD d lo hi)
    pure (.imm d', δ3)
def slN (f : FE) (l u : FO) : FN := fun δ => do
  let (r, δ1) ← f δ
  let (lo, δ2) ← l δ1
  let (hi, δ3) ← u δ2
  let d ← res δ3 r
  let d' ← ofO (cutLD d lo hi)
  pure (d', δ3)
def rSlAll (K : PySem.W.Frag) : V → Option Int → Option Int → Hp → VK → Prop := fun x lo hi H Q => rSlL K x lo hi H Q ∨ (rSlA K x lo hi H Q ∨ rSlS x lo hi H Q)
theorem reps_cut {I : Hp} {ds : List D} {xs : List V} (r : Reps T I ds xs) (lo hi : Option Int) : Reps T I (cutL ds lo hi) (cutV xs lo hi) := by
  unfold cutL cutV
  rw [r.len]
  exact (r.drop _).take _
theorem cutL_map {α β : Type} (f : α → β) (xs : List α) (lo hi : Option Int) : cutL (xs.map f) lo hi = (cutL xs lo hi).map f := by
  unfold cutL
  simp
theorem cut_list {K : PySem.W.Frag} (hK : T.K = K) {I H : Hp} (s : Same I H) {d d' : D} {v : V} {lo hi : Option Int} (h : Red T I H d v) (e : cutLD d lo hi = some d') {Q : VK} (q : ∀ p o, H p = none → OwnRep T I (upd H p o) d' (p, p) → Q (.ref p) (upd H p o)) : rSlL K v lo hi H Q := by
  subst hK
  cases d with
  | lst xs =>
    cases e
    obtain ⟨a, ys, rfl, hq, r⟩ := h.lst_inv s
    exact ⟨a, ys, rfl, .of hq, fun p hp => q p _ hp ⟨rfl, _, upd_same, reps_cut r lo hi⟩⟩
  | frl xs =>
    cases e
    obtain ⟨a, ys, rfl, hq, r⟩ := h.frl_inv s
    exact ⟨a, ys, rfl, hq, fun p hp => q p _ hp ⟨rfl, _, upd_same, reps_cut r lo hi⟩⟩
  | _ => cases e
theorem cutLD_ndk {d d' : D} {lo hi : Option Int} (e : cutLD d lo hi = some d') : isDk d' = false := by
  cases d <;> cases e <;> rfl
theorem cutL_whole {α : Type} (xs : List α) (lo hi : Option Int) (h : HT.sIx xs.length 0 lo = 0 ∧ HT.sIx xs.length xs.length hi = xs.length) : cutL xs lo hi = xs := by
  unfold cutL
  rw [h.1, h.2]
  simp
theorem de_sl {l u : FO} {lo hi : Option Expr} {p2 : Pos} (he : DE T X E e fa) (hl : DO T X E lo l) (hu : DO T X E hi u) (hK : T.K = X.K := by rfl) : DE T X E (.Subscript e (.Slice lo hi none p2) pos) (slF fa l u) :=
  PE.of (pe_slice (sl_list.or (sl_tupA.or sl_str)) he hl hu) fun σ H Q ⟨M, A, I, δ, ok, w⟩ => by
    refine ⟨M, A, I, δ, ok, w.bind.imp fun (r1, δ1) e1 w1 v1 I1 H1 ok1 st1 rr1 => ?_⟩
    refine ⟨M, A, I1, δ1, ok1, w1.bind.imp fun (o1, δ2) e2 w2 I2 H2 ok2 st2 => ?_⟩
    refine ⟨M, A, I2, δ2, ok2, w2.bind.imp fun (o2, δ3) e3 w3 I3 H3 ok3 st3 => ?_⟩
    replace w3 : Wants T M E (res δ3 r1 >>= fun d => match cutLD d o1 o2 with
      | some d' => pure (R.imm d', δ3)
      | none => ofO (cutD d o1 o2) >>= fun d' => pure (.imm d', δ3)) _ := w3
    cases q : res δ3 r1 with
    | stuck => rw [q] at w3; exact w3.elim
    | exc x => exact (res_exc q).elim
    | ok d =>
      rw [q, ok_bind] at w3
      have rd := ok3.red ((rr1.mono st2.gro).mono st3.gro) q
      have st := (st1.trans st2).trans st3
      cases q2 : cutLD d o1 o2 with
      | some d' =>
        simp only [q2] at w3
        refine .inl (cut_list hK ok3.sub rd q2 fun p o hp ow => ?_)
        obtain ⟨k1, k2, k3⟩ := ap_new (d := d') (o := o) ok3 hp
        obtain ⟨I4, ok4, sm, fr, rv⟩ := k1.freezeAt ow k3 (cutLD_ndk q2)
        refine w3 _ I4 _ ok4 ⟨st.gro.trans sm, fun b u h => ?_, (st.trans k2).kee, (st.trans k2).mon, (st.trans k2).dom⟩ rv
        rcases fr b u h with h | h | h
        · exact st.fre b u h
        · exact .inr (.inl (by rw [h]; exact st.back hp))
        · exact .inr (.inl (by rw [h]; exact st.back hp))
      | none =>
        simp only [q2] at w3
        cases q3 : cutD d o1 o2 with
        | none => rw [q3] at w3; exact w3.elim
        | some d' =>
          rw [q3] at w3
          cases d with
          | str z =>
            simp only [cutD] at q3
            split at q3
            · rename_i hl'
              cases q3
              rw [rd.str_inv]
              refine .inr (.inr ⟨mkS z, rfl, by rw [mkS_length]; exact hl'.le, ?_⟩)
              have e9 : cutS (mkS z) o1 o2 = mkS (cutL z o1 o2) := by
                unfold cutS mkS cutL
                simp [Str.length]
              rw [e9]
              exact w3 _ I3 H3 ok3 st (show Rep T I3 (.str (cutL z o1 o2)) _ from .ofstr)
            · cases q3
          | tup xs =>
            cases q3
            have r0 := rd.tup_inv2
            obtain ⟨a, ys, rfl, hq, r⟩ := rd.tup_inv ok3.sub
            refine .inr (.inl ⟨a, ys, rfl, by rw [← hK]; exact hq, fun hw => ?_, fun hw p hp => ?_⟩)
            · rw [r.len] at hw
              have := cutL_whole xs o1 o2 hw
              rw [this] at w3
              exact w3 _ I3 H3 ok3 st r0
            · obtain ⟨n, rv⟩ := new_tup ok3.sub (reps_cut r o1 o2) hp
              exact w3 _ _ _ (ok3.new n) (st.trans n.stp) rv
          | _ => cases q3
theorem dn_sl {l u : FO} {lo hi : Option Expr} {p2 : Pos} (he : DE T X E e fa) (hl : DO T X E lo l) (hu : DO T X E hi u) (hK : T.K = X.K := by rfl) : DN T X E (.Subscript e (.Slice lo hi none p2) pos) (slN fa l u) :=
  PE.of (pe_slice sl_list he hl hu) fun σ H Q ⟨M, A, I, δ, ok, w⟩ => by
    refine ⟨M, A, I, δ, ok, w.bind.imp fun (r1, δ1) e1 w1 v1 I1 H1 ok1 st1 rr1 => ?_⟩
    refine ⟨M, A, I1, δ1, ok1, w1.bind.imp fun (o1, δ2) e2 w2 I2 H2 ok2 st2 => ?_⟩
    refine ⟨M, A, I2, δ2, ok2, w2.bind.imp fun (o2, δ3) e3 w3 I3 H3 ok3 st3 => ?_⟩
    replace w3 : Wants T M E (res δ3 r1 >>= fun d => ofO (cutLD d o1 o2) >>= fun d' => pure (d', δ3)) _ := w3
    cases q : res δ3 r1 with
    | stuck => rw [q] at w3; exact w3.elim
    | exc x => exact (res_exc q).elim
    | ok d =>
      rw [q, ok_bind] at w3
      have rd := ok3.red ((rr1.mono st2.gro).mono st3.gro) q
      have st := (st1.trans st2).trans st3
      cases q2 : cutLD d o1 o2 with
      | none => rw [q2] at w3; exact w3.elim
      | some d' =>
        rw [q2] at w3
        refine cut_list hK ok3.sub rd q2 fun p o hp ow => ?_
        obtain ⟨k1, k2, k3⟩ := ap_new (d := d') (o := o) ok3 hp
        exact w3 (p, p) I3 _ k1 (st.trans k2) ow k3 (st.back hp) (st.back hp)
end
end DE
set_option Elab.async false
set_option linter.all false
set_option maxRecDepth 100000
set_option maxHeartbeats 2000000
namespace DE
open PySem PySem.Spec PyProof.Rows L2

/-! ### methods that only read -/
def isTy (t : String) : D → Bool
  | .str _ => t == "str"
  | .lst _ => t == "list"
  | .frl _ => t == "list"
  | .int _ => t == "int"
  | _ => false
def GM (T : Ctx) (r : V → List V → Hp → VK → Prop) (g : D → List D → Option D) : Prop := ∀ {I H : Hp} {d0 : D} {v0 : V} {ds : List D} {vs : List V} {d : D} {Q : VK}, Same I H → Red T I H d0 v0 → Redl T I H ds vs → g d0 ds = some d → (∀ v I' H', New I H I' H' → Rep T I' d v → Q v H') → r v0 vs H Q
def GMN (T : Ctx) (r : V → List V → Hp → VK → Prop) (g : D → List D → Option D) : Prop := ∀ {I H : Hp} {d0 : D} {v0 : V} {ds : List D} {vs : List V} {d : D} {Q : VK}, Same I H → Red T I H d0 v0 → Redl T I H ds vs → g d0 ds = some d → (∀ p o, H p = none → OwnRep T I (upd H p o) d (p, p) → Q (.ref p) (upd H p o)) → r v0 vs H Q
def mtF (t : String) (g : D → List D → Option D) (fo : FE) (fa : FA) : FE := fun δ => do
  let (r0, δ1) ← fo δ
  let d0 ← res δ1 r0
  if isTy t d0 then do
    let (rs, δ2) ← fa δ1
    let d ← res δ2 r0
    let ds ← resL δ2 rs
    let d' ← ofO (g d ds)
    pure (.imm d', δ2)
  else .stuck
def mtN (t : String) (g : D → List D → Option D) (fo : FE) (fa : FA) : FN := fun δ => do
  let (r0, δ1) ← fo δ
  let d0 ← res δ1 r0
  if isTy t d0 then do
    let (rs, δ2) ← fa δ1
    let d ← res δ2 r0
    let ds ← resL δ2 rs
    let d' ← ofO (g d ds)
    pure (d', δ2)
  else .stuck
section
variable {T : Ctx} {X : Cx} {E : XK} {o e a b : Expr} {es : List Expr} {fo fa fb : FE} {fs : FA} {apos cpos pos : Pos} {t id : String} {name : Str} {r : V → List V → Hp → VK → Prop} {g : D → List D → Option D}
theorem tyV_of (hK : T.K = X.K) {I H : Hp} (s : Same I H) {d : D} {v : V} (h : Red T I H d v) (e : isTy t d = true) : tyV X.K t v H := by
  cases d with
  | str z => rw [h.str_inv]; exact eq_of_beq e
  | int z => rw [h.int_inv]; exact eq_of_beq e
  | lst z =>
    obtain ⟨p, ys, rfl, hq, r⟩ := h.lst_inv s
    exact .inl ⟨eq_of_beq e, ys, .of hq⟩
  | frl z =>
    obtain ⟨p, ys, rfl, hq, r⟩ := h.frl_inv s
    exact .inl ⟨eq_of_beq e, ys, by rw [← hK]; exact hq⟩
  | _ => cases e
theorem mt_core {M : Amb} {A : Pl} {I H : Hp} {δ : Dl} {α : Type} {fo : FE} {fa : FA} {m : R → List D → Dl → Out α} {k : α → Prop} {Q : V → Hp → Prop} {σ : L2.St} (hK : T.K = X.K) (ok : Ok T M A I σ H δ)
    (w : Wants T M E (fo δ >>= fun z => res z.2 z.1 >>= fun d0 => if isTy t d0 then (fa z.2 >>= fun y => res y.2 z.1 >>= fun d => resL y.2 y.1 >>= fun ds => m z.1 (d :: ds) y.2) else .stuck) k) {to : TE} {ta : TA} {r : V → List V → Hp → VK → Prop}
    (ho : ∀ σ H Q, tE T E fo σ H Q → to σ H Q) (hta : ∀ σ H Q, tA T E fa σ H Q → ta σ H Q)
    (hq : ∀ r0 d ds δ2 I2 H2 v vs, Ok T M A I2 σ H2 δ2 → Stp A δ I H δ2 I2 H2 → Red T I2 H2 d v → Redl T I2 H2 ds vs → Wants T M E (m r0 (d :: ds) δ2) k → r v vs H2 Q) : tBM X.K t r to ta σ H Q := by
  refine ho _ _ _ ⟨M, A, I, δ, ok, w.bind.imp fun (r0, δ1) e1 w1 v0 I1 H1 ok1 st1 rr1 => ?_⟩
  cases q : res δ1 r0 with
  | stuck => simp only [q] at w1; exact w1.elim
  | exc x => exact (res_exc q).elim
  | ok d0 =>
    simp only [q, ok_bind] at w1
    cases ht : isTy t d0 with
    | false => simp only [ht] at w1; exact w1.elim
    | true =>
      simp only [ht, if_true] at w1
      refine ⟨tyV_of hK ok1.sub (ok1.red rr1 q) ht, hta _ _ _ ⟨M, A, I1, δ1, ok1, w1.bind.imp fun (rs, δ2) e2 w2 vs I2 H2 ok2 st2 rr2 => ?_⟩⟩
      cases q2 : res δ2 r0 with
      | stuck => simp only [q2] at w2; exact w2.elim
      | exc x => exact (res_exc q2).elim
      | ok d =>
        simp only [q2, ok_bind] at w2
        cases q3 : resL δ2 rs with
        | stuck => simp only [q3] at w2; exact w2.elim
        | exc x => exact (resL_exc q3).elim
        | ok ds =>
          simp only [q3, ok_bind] at w2
          exact hq r0 d ds δ2 I2 H2 v0 vs ok2 (st1.trans st2) (ok2.red (rr1.mono st2.gro) q2) (ok2.redl rr2 q3) w2
theorem tBM_of (hK : T.K = X.K) (hg : GM T r g) {to : TE} {ta : TA} (ho : ∀ σ H Q, tE T E fo σ H Q → to σ H Q) (hta : ∀ σ H Q, tA T E fs σ H Q → ta σ H Q) : ∀ σ H Q, tE T E (mtF t g fo fs) σ H Q → tBM X.K t r to ta σ H Q := fun σ H Q ⟨M, A, I, δ, ok, w⟩ => by
  refine mt_core (m := fun _ ds δ2 => match ds with | d :: ds => ofO (g d ds) >>= fun d' => pure (R.imm d', δ2) | [] => .stuck) hK ok w ho hta fun r0 d ds δ2 I2 H2 v vs ok2 st2 rd rds w2 => ?_
  replace w2 : Wants T M E (ofO (g d ds) >>= fun d' => pure (R.imm d', δ2)) _ := w2
  cases q : g d ds with
  | none => rw [q] at w2; exact w2.elim
  | some d' =>
    rw [q] at w2
    exact hg ok2.sub rd rds q fun v I' H' n rv => w2 v I' H' (ok2.new n) (st2.trans n.stp) rv
theorem tBMN_of (hK : T.K = X.K) (hg : GMN T r g) {to : TE} {ta : TA} (ho : ∀ σ H Q, tE T E fo σ H Q → to σ H Q) (hta : ∀ σ H Q, tA T E fs σ H Q → ta σ H Q) : ∀ σ H Q, tN T E (mtN t g fo fs) σ H Q → tBM X.K t r to ta σ H Q := fun σ H Q ⟨M, A, I, δ, ok, w⟩ => by
  refine mt_core (m := fun _ ds δ2 => match ds with | d :: ds => ofO (g d ds) >>= fun d' => pure (d', δ2) | [] => .stuck) hK ok w ho hta fun r0 d ds δ2 I2 H2 v vs ok2 st2 rd rds w2 => ?_
  replace w2 : Wants T M E (ofO (g d ds) >>= fun d' => pure (d', δ2)) _ := w2
  cases q : g d ds with
  | none => rw [q] at w2; exact w2.elim
  | some d' =>
    rw [q] at w2
    refine hg ok2.sub rd rds q fun p o hp ow => ?_
    obtain ⟨k1, k2, k3⟩ := ap_new (d := d') (o := o) ok2 hp
    exact w2 (p, p) I2 _ k1 (st2.trans k2) ow k3 (st2.back hp) (st2.back hp)
theorem tBM0_of {to : TE} {σ : L2.St} {H : Hp} {Q : VK} (h : tBM X.K t r to tNil σ H Q) : tBM0 X.K t r to σ H Q := h
theorem tNil_of : ∀ σ H Q, tA T E nilA σ H Q → tNil σ H Q := fun σ H Q ⟨M, A, I, δ, ok, w⟩ => w [] I H ok .refl rfl
theorem de_mt0 (pa : PlainAttrs t) (slot : Slot t name id) (hty : typeOf (.builtin id) = pure (.type "method_descriptor")) (hm : MtR X id r) (hg : GM T r g) (ho : DE T X E o fo) (hK : T.K = X.K := by rfl)
    (hbase : attributeBase o name X.env (eval o X.env) = eval o X.env := by rfl) (hline : (apos.endLine == cpos.line) = true := by rfl) : DE T X E (.Call (.Attribute o name apos) [] [] cpos) (mtF t g fo nilA) :=
  PE.of (pe_bm0 pa slot hty hm ho hbase hline) fun σ H Q h => tBM0_of (tBM_of hK hg (fun _ _ _ z => z) tNil_of σ H Q h)
theorem dn_mt0 (pa : PlainAttrs t) (slot : Slot t name id) (hty : typeOf (.builtin id) = pure (.type "method_descriptor")) (hm : MtR X id r) (hg : GMN T r g) (ho : DE T X E o fo) (hK : T.K = X.K := by rfl)
    (hbase : attributeBase o name X.env (eval o X.env) = eval o X.env := by rfl) (hline : (apos.endLine == cpos.line) = true := by rfl) : DN T X E (.Call (.Attribute o name apos) [] [] cpos) (mtN t g fo nilA) :=
  PE.of (pe_bm0 pa slot hty hm ho hbase hline) fun σ H Q h => tBM0_of (tBMN_of hK hg (fun _ _ _ z => z) tNil_of σ H Q h)
abbrev Few (X : Cx) (e : Expr) (es : List Expr) (cpos : Pos) : Prop := ((backTo cpos (starEach (e :: es) X.env)).all (fun x => !x.1) && (backToKw cpos (keywordEach [] X.env)).all (fun x => x.1.isSome)
      && decide ((e :: es).length + ([] : List Keyword).length + (if ([] : List Keyword).isEmpty then 0 else 1) < 30)) = true
theorem de_mt (pa : PlainAttrs t) (slot : Slot t name id) (hty : typeOf (.builtin id) = pure (.type "method_descriptor")) (hm : MtR X id r) (hg : GM T r g) (ho : DE T X E o fo) (ha : DA T X E (e :: es) fs) (hK : T.K = X.K := by rfl)
    (hbase : attributeBase o name X.env (eval o X.env) = eval o X.env := by rfl) (hfew : Few X e es cpos := by rfl)
    (hline : (apos.endLine == cpos.line) = true := by rfl) (hs : starEach (e :: es) X.env = (false, eval e X.env) :: starEach es X.env := by rfl) (hplain : (backTo cpos (starEach es X.env)).any (·.1) = false := by rfl) :
    DE T X E (.Call (.Attribute o name apos) (e :: es) [] cpos) (mtF t g fo fs) :=
  PE.of (pe_bm pa slot hty hm ho ha hbase hfew hline hs hplain) (tBM_of hK hg (fun _ _ _ z => z) fun _ _ _ z => z)
theorem dn_mt (pa : PlainAttrs t) (slot : Slot t name id) (hty : typeOf (.builtin id) = pure (.type "method_descriptor")) (hm : MtR X id r) (hg : GMN T r g) (ho : DE T X E o fo) (ha : DA T X E (e :: es) fs) (hK : T.K = X.K := by rfl)
    (hbase : attributeBase o name X.env (eval o X.env) = eval o X.env := by rfl) (hfew : Few X e es cpos := by rfl)
    (hline : (apos.endLine == cpos.line) = true := by rfl) (hs : starEach (e :: es) X.env = (false, eval e X.env) :: starEach es X.env := by rfl) (hplain : (backTo cpos (starEach es X.env)).any (·.1) = false := by rfl) :
    DN T X E (.Call (.Attribute o name apos) (e :: es) [] cpos) (mtN t g fo fs) :=
  PE.of (pe_bm pa slot hty hm ho ha hbase hfew hline hs hplain) (tBMN_of hK hg (fun _ _ _ z => z) fun _ _ _ z => z)

/-! ### methods that write their object -/
def GW (T : Ctx) (r : V → List V → Hp → VK → Prop) (g : D → List D → Option (D × D)) : Prop := ∀ {I H : Hp} {d0 ret new : D} {p : Addr × Addr} {ds : List D} {vs : List V} {Q : VK}, Same I H → OwnRep T I H d0 p → Reps T I ds vs → g d0 ds = some (ret, new) →
  (∀ v o, p.2 = p.1 → Rep T I ret v → OwnRep T I (upd H p.1 o) new p → Q v (upd H p.1 o)) → r (.ref p.1) vs H Q
def muP (g : D → List D → Option (D × D)) (j : Nat) (ds : List D) (δ : Dl) : Out (R × Dl) := match δ[j]? with
  | some (some s) => if s.live then (ofO (g s.con ds) >>= fun u => pure (.imm u.1, δ.set j (some (s.put u.2)))) else .stuck
  | _ => .stuck
def muF (t : String) (g : D → List D → Option (D × D)) (fo : FE) (fa : FA) : FE := fun δ => do
  let (r0, δ1) ← fo δ
  match r0 with
  | .slot j => do
    let d0 ← res δ1 (.slot j)
    if isTy t d0 then do
      let (rs, δ2) ← fa δ1
      let (ds, δ3) ← takeRs rs δ2
      muP g j ds δ3
    else .stuck
  | _ => .stuck
theorem tBMW_of (hK : T.K = X.K) {g : D → List D → Option (D × D)} (hg : GW T r g) {to : TE} {ta : TA} (ho : ∀ σ H Q, tE T E fo σ H Q → to σ H Q) (hta : ∀ σ H Q, tA T E fs σ H Q → ta σ H Q) : ∀ σ H Q, tE T E (muF t g fo fs) σ H Q → tBM X.K t r to ta σ H Q := fun σ H Q ⟨M, A, I, δ, ok, w⟩ => by
  refine ho _ _ _ ⟨M, A, I, δ, ok, w.bind.imp fun (r0, δ1) e1 w1 v0 I1 H1 ok1 st1 rr1 => ?_⟩
  cases r0 with
  | imm d => exact w1.elim
  | slot j =>
    replace w1 : Wants T M E (res δ1 (.slot j) >>= fun d0 => if isTy t d0 then (fs δ1 >>= fun y => takeRs y.1 y.2 >>= fun z => muP g j z.1 z.2) else .stuck) _ := w1
    cases q : res δ1 (.slot j) with
    | stuck => simp only [q] at w1; exact w1.elim
    | exc x => exact (res_exc q).elim
    | ok d0 =>
      simp only [q, ok_bind] at w1
      cases ht : isTy t d0 with
      | false => simp only [ht] at w1; exact w1.elim
      | true =>
        simp only [ht, if_true] at w1
        refine ⟨tyV_of hK ok1.sub (ok1.red rr1 q) ht, hta _ _ _ ⟨M, A, I1, δ1, ok1, w1.bind.imp fun (rs, δ2) e2 w2 vs I2 H2 ok2 st2 rr2 => ?_⟩⟩
        cases q2 : takeRs rs δ2 with
        | stuck => simp only [q2] at w2; exact w2.elim
        | exc x => exact (takeRs_exc q2).elim
        | ok z =>
          obtain ⟨ds, δ3⟩ := z
          simp only [q2, ok_bind, muP] at w2
          obtain ⟨I3, ok3, st3, rds⟩ := ok2.hands rr2 q2
          split at w2
          · rename_i s hs
            split at w2
            · rename_i hl
              cases q3 : g s.con ds with
              | none => simp only [q3] at w2; exact w2.elim
              | some u =>
                obtain ⟨ret, new⟩ := u
                simp only [q3, ofO_some, ok_bind] at w2
                have rr1 : σ[j]? = some (some v0) := rr1
                have ow : σ[j]? = some (some (.ref (A j).1)) ∧ OwnRep T I3 H2 s.con (A j) ∧ ∀ b, fpt A j b → I3 b = none := by
                  have z := ok3.sl j s hs
                  cases s with
                  | own d => exact ⟨z.1, z.2.1, fun b f => (z.2.2 b f).1⟩
                  | par d => exact ⟨z.1, z.2.1, z.2.2.1⟩
                  | _ => cases hl
                obtain ⟨h1, h2, h3⟩ := ow
                rw [rr1] at h1
                cases h1
                refine hg ok3.sub h2 rds q3 fun v o h12 rv hn => ?_
                have hfp : ∀ b, fpt A j b → b = (A j).1 := fun b f => by
                  rcases f with f | f
                  · exact f
                  · rw [f, h12]
                have := ok3.chg (H' := upd H2 (A j).1 o) (d := new) hs hl (.refl _) (fun b u e => by
                  rw [upd_ne fun z => by rw [z, h3 _ (.inl rfl)] at e; cases e]
                  exact ok3.sub _ _ e) (fun b u e => .inl e) (fun b u e nf => by
                  rw [upd_ne fun z => nf (.inl z)]
                  exact e) hn h3
                exact w2 v I3 _ this.1 ((st1.trans st2).trans (st3.trans this.2)) rv
            · exact w2.elim
          · exact w2.elim
theorem de_mu (pa : PlainAttrs t) (slot : Slot t name id) (hty : typeOf (.builtin id) = pure (.type "method_descriptor")) {g : D → List D → Option (D × D)} (hm : MtR X id r) (hg : GW T r g) (ho : DE T X E o fo) (ha : DA T X E (e :: es) fs) (hK : T.K = X.K := by rfl)
    (hbase : attributeBase o name X.env (eval o X.env) = eval o X.env := by rfl) (hfew : Few X e es cpos := by rfl)
    (hline : (apos.endLine == cpos.line) = true := by rfl) (hs : starEach (e :: es) X.env = (false, eval e X.env) :: starEach es X.env := by rfl) (hplain : (backTo cpos (starEach es X.env)).any (·.1) = false := by rfl) :
    DE T X E (.Call (.Attribute o name apos) (e :: es) [] cpos) (muF t g fo fs) :=
  PE.of (pe_bm pa slot hty hm ho ha hbase hfew hline hs hplain) (tBMW_of hK hg (fun _ _ _ z => z) fun _ _ _ z => z)
theorem de_mu0 (pa : PlainAttrs t) (slot : Slot t name id) (hty : typeOf (.builtin id) = pure (.type "method_descriptor")) {g : D → List D → Option (D × D)} (hm : MtR X id r) (hg : GW T r g) (ho : DE T X E o fo) (hK : T.K = X.K := by rfl)
    (hbase : attributeBase o name X.env (eval o X.env) = eval o X.env := by rfl) (hline : (apos.endLine == cpos.line) = true := by rfl) : DE T X E (.Call (.Attribute o name apos) [] [] cpos) (muF t g fo nilA) :=
  PE.of (pe_bm0 pa slot hty hm ho hbase hline) fun σ H Q h => tBM0_of (tBMW_of hK hg (fun _ _ _ z => z) tNil_of σ H Q h)

/-! ### append, extend, pop -/
def appD : D → List D → Option (D × D)
  | .lst xs, [d] => if xs.length < 16777216 then some (.non, .lst (xs ++ [d])) else none
  | _, _ => none
def extD : D → List D → Option (D × D)
  | .lst xs, [.lst ys] => if lim (xs.length + ys.length) then some (.non, .lst (xs ++ ys)) else none
  | _, _ => none
def popD : D → List D → Option (D × D)
  | .lst xs, [] => xs.getLast?.map fun d => (d, .lst xs.dropLast)
  | .lst xs, [.int i] => (ixN xs.length i).bind fun k => xs[k]?.map fun d => (d, .lst (xs.eraseIdx k))
  | _, _ => none
theorem own_lst {I H : Hp} {xs : List D} {p : Addr × Addr} (o : OwnRep T I H (.lst xs) p) : p.2 = p.1 ∧ ∃ ys, H p.1 = some (.lst ys) ∧ Reps T I xs ys := o
theorem g_app : GW T rAppend appD := by
  intro I H d0 ret new p ds vs Q s o rs e q
  unfold appD at e
  split at e
  · split at e
    · rename_i xs d hl
      cases e
      obtain ⟨e1, ys, hy, r⟩ := own_lst o
      obtain ⟨v, w, rfl, r1, r2⟩ := rs.cons_inv
      rw [r2.nil_inv]
      refine ⟨p.1, ys, v, rfl, rfl, hy, by rw [r.len, line_eq]; exact hl, q _ _ e1 .ofnon ⟨e1, _, upd_same, r.append (.one r1)⟩⟩
    · cases e
  · cases e
theorem g_ext : GW T rExtend extD := by
  intro I H d0 ret new p ds vs Q s o rs e q
  unfold extD at e
  split at e
  · split at e
    · rename_i xs zs hl
      cases e
      obtain ⟨e1, ys, hy, r⟩ := own_lst o
      obtain ⟨v, w, rfl, r1, r2⟩ := rs.cons_inv
      rw [r2.nil_inv]
      obtain ⟨a, us, rfl, hu, ru⟩ := r1.lst_inv
      refine ⟨p.1, a, ys, us, rfl, rfl, hy, s _ _ hu, by rw [r.len, ru.len]; exact hl.le, q _ _ e1 .ofnon ⟨e1, _, upd_same, r.append ru⟩⟩
    · cases e
  · cases e
theorem fits63 {i : Int} {n : Nat} {k : Nat} (h : ixN n i = some k) (hn : n ≤ sizeLine) : -(2 ^ 63) ≤ i ∧ i < 2 ^ 63 := by
  obtain ⟨_, h1, h2, h3⟩ := ixN_seq h
  rw [line_eq] at hn
  constructor <;> omega
def rPopA : V → List V → Hp → VK → Prop := fun x vs H Q => rPop x vs H Q ∨ ∃ l xs i k y, x = .ref l ∧ vs = [.int i] ∧ H l = some (.lst xs) ∧ ixN xs.length i = some k ∧ xs[k]? = some y ∧ Q y (upd H l (.lst (xs.eraseIdx k)))
theorem mt_popA : MtR X "list.pop" rPopA := MtR.or (mt_pop (X := X)) fun pins s σ H x xs v us Q I rx rs h => by
  obtain ⟨l, ys, i, k, y, rfl, rfl, hl, hk, hy, q⟩ := h
  obtain ⟨hz, _⟩ := I.lstM hl
  obtain ⟨f1, f2⟩ := fits63 hk hz
  exact mt_popAt pins s σ H _ _ v us Q I rx rs ⟨l, ys, i, k, y, rfl, rfl, hl, f1, f2, (ixN_seq hk).1, hy, q⟩
theorem Reps.last {I : Hp} {ds : List D} {xs : List V} {d : D} (r : Reps T I ds xs) (h : ds.getLast? = some d) : ∃ v, xs[xs.length - 1]? = some v ∧ Rep T I d v := by
  rw [List.getLast?_eq_getElem?] at h
  rw [r.len]
  exact r.get h
theorem Reps.dropLast {I : Hp} {ds : List D} {xs : List V} (r : Reps T I ds xs) : Reps T I ds.dropLast xs.dropLast := by
  rw [List.dropLast_eq_take, List.dropLast_eq_take, r.len]
  exact r.take _
theorem g_pop : GW T rPopA popD := by
  intro I H d0 ret new p ds vs Q s o rs e q
  unfold popD at e
  split at e
  · rename_i xs
    simp only [Option.map_eq_some_iff, Prod.mk.injEq] at e
    obtain ⟨d, e1, rfl, rfl⟩ := e
    obtain ⟨e2, ys, hy, r⟩ := own_lst o
    obtain ⟨v, hv, rv⟩ := r.last e1
    rw [rs.nil_inv]
    exact .inl ⟨p.1, ys, v, rfl, rfl, hy, hv, q _ _ e2 rv ⟨e2, _, upd_same, r.dropLast⟩⟩
  · rename_i xs i
    simp only [Option.bind_eq_some_iff, Option.map_eq_some_iff, Prod.mk.injEq] at e
    obtain ⟨k, e0, d, e1, rfl, rfl⟩ := e
    obtain ⟨e2, ys, hy, r⟩ := own_lst o
    obtain ⟨v, hv, rv⟩ := r.get e1
    obtain ⟨w, ws, rfl, r1, r2⟩ := rs.cons_inv
    rw [r2.nil_inv, r1.int_inv]
    exact .inr ⟨p.1, ys, i, k, v, rfl, rfl, hy, by rw [r.len]; exact e0, hv, q _ _ e2 rv ⟨e2, _, upd_same, r.eraseIdx k⟩⟩
  · cases e
end
end DE
set_option Elab.async false
set_option linter.all false
set_option maxRecDepth 100000
set_option maxHeartbeats 2000000
namespace DE
open PySem PySem.Spec PyProof.Rows L2

/-! ### rows whose items may be fresh objects: a, b = (e1, e2) -/
abbrev FX := Dl → Out (S × Dl)
def immX (f : FE) : FX := fun δ => do
  let (r, δ1) ← f δ
  let (d, δ2) ← takeR r δ1
  pure (.imm d, δ2)
def ownX (f : FN) : FX := fun δ => do
  let (d, δ1) ← f δ
  pure (.own d, δ1)
def tX (T : Ctx) (E : XK) (f : FX) : TE := fun σ H Q => ∃ M A I δ, Ok T M A I σ H δ ∧ Wants T M E (f δ) fun (s, δ') => match s with
  | .imm d => ∀ v I' H', Ok T M A I' σ H' δ' → Stp A δ I H δ' I' H' → Rep T I' d v → Q v H'
  | .own d => ∀ p I' H', Ok T M A I' σ H' δ' → Stp A δ I H δ' I' H' → OwnRep T I' H' d p → Apart M A δ' I' p → H p.1 = none → H p.2 = none → Q (.ref p.1) H'
  | _ => False
abbrev DX (T : Ctx) (X : Cx) (E : XK) (e : Expr) (f : FX) : Prop := PE X e (tX T E f)
section
variable {T : Ctx} {X : Cx} {E : XK} {e a b c : Expr} {es : List Expr}
theorem tX_imm {f : FE} {t : TE} (ht : ∀ σ H Q, tE T E f σ H Q → t σ H Q) : ∀ σ H Q, tX T E (immX f) σ H Q → t σ H Q := fun σ H Q ⟨M, A, I, δ, ok, w⟩ =>
  ht _ _ _ ⟨M, A, I, δ, ok, w.bind.imp fun (r, δ1) e1 w1 v I1 H1 ok1 st1 r1 => by
    replace w1 : Wants T M E (takeR r δ1 >>= fun z => pure (S.imm z.1, z.2)) _ := w1
    cases q : takeR r δ1 with
    | stuck => rw [q] at w1; exact w1.elim
    | exc x => exact (takeR_exc q).elim
    | ok z =>
      rw [q] at w1
      obtain ⟨I2, ok2, st2, rr⟩ := ok1.hand r1 q
      exact w1 v I2 H1 ok2 (st1.trans st2) rr⟩
theorem tX_own {f : FN} {t : TE} (ht : ∀ σ H Q, tN T E f σ H Q → t σ H Q) : ∀ σ H Q, tX T E (ownX f) σ H Q → t σ H Q := fun σ H Q ⟨M, A, I, δ, ok, w⟩ =>
  ht _ _ _ ⟨M, A, I, δ, ok, w.bind.imp fun (d, δ1) e1 w1 p I1 H1 ok1 st1 o ap n1 n2 => w1 p I1 H1 ok1 st1 o ap n1 n2⟩
theorem dx_imm {f : FE} (h : DE T X E e f) : DX T X E e (immX f) := PE.of h (tX_imm fun _ _ _ z => z)
theorem dx_own {f : FN} (h : DN T X E e f) : DX T X E e (ownX f) := PE.of h (tX_own fun _ _ _ z => z)
/-- what waits to be put into slots: the objects' places -/
def Held (T : Ctx) (M : Amb) (A : Pl) (δ : Dl) (I H : Hp) : List S → List V → List Addr → Prop
  | [], vs, F => vs = [] ∧ F = []
  | .imm d :: ss, vs, F => ∃ v r, vs = v :: r ∧ Rep T I d v ∧ Held T M A δ I H ss r F
  | .own d :: ss, vs, F => ∃ (p : Addr × Addr) (r : List V) (F' : List Addr), vs = .ref p.1 :: r ∧ F = p.1 :: p.2 :: F' ∧ OwnRep T I H d p ∧ Apart M A δ I p ∧ p.1 ∉ F' ∧ p.2 ∉ F' ∧ Held T M A δ I H ss r F'
  | _ :: _, _, _ => False
section
variable {M : Amb} {A : Pl} {δ δ' : Dl} {I H I' H' : Hp} {σ : L2.St} {i : Nat}
theorem OwnRep.step {d : D} {p : Addr × Addr} (o : OwnRep T I H d p) (ap : Apart M A δ I p) (st : Stp A δ I H δ' I' H') : OwnRep T I' H' d p ∧ Apart M A δ' I' p := by
  refine ⟨o.new st.gro fun b u f e => st.kee b u e fun j hj z => ap.s b f j hj z, ⟨fun b f => ?_, ap.h, fun b f j hj => ap.s b f j (st.mon j hj), ap.x⟩⟩
  cases q : I' b with
  | none => rfl
  | some u =>
    obtain ⟨⟨u1, h1⟩, ⟨u2, h2⟩⟩ := o.there
    rcases st.fre b u q with z | z | ⟨j, hj, z⟩
    · rw [ap.i b f] at z; cases z
    · rcases f with f | f
      · rw [f, h1] at z; cases z
      · rw [f, h2] at z; cases z
    · exact (ap.s b f j hj z).elim
theorem Held.step (st : Stp A δ I H δ' I' H') : ∀ {ss : List S} {vs : List V} {F : List Addr}, Held T M A δ I H ss vs F → Held T M A δ' I' H' ss vs F
  | [], _, _, h => h
  | .imm d :: ss, _, _, ⟨v, r, e, h1, h2⟩ => ⟨v, r, e, h1.mono st.gro, Held.step st h2⟩
  | .own d :: ss, _, _, ⟨p, r, F', e1, e2, h1, h2, h3, h4, h5⟩ => by
    obtain ⟨k1, k2⟩ := h1.step h2 st
    exact ⟨p, r, F', e1, e2, k1, k2, h3, h4, Held.step st h5⟩
  | .par d :: ss, _, _, h => h.elim
  | .lck d :: ss, _, _, h => h.elim
theorem Held.there : ∀ {ss : List S} {vs : List V} {F : List Addr}, Held T M A δ I H ss vs F → ∀ b ∈ F, ∃ u, H b = some u
  | [], _, _, ⟨_, e⟩, b, hb => by rw [e] at hb; cases hb
  | .imm d :: ss, _, _, ⟨v, r, e, h1, h2⟩, b, hb => Held.there h2 b hb
  | .own d :: ss, _, _, ⟨p, r, F', e1, e2, h1, h2, h3, h4, h5⟩, b, hb => by
    rw [e2] at hb
    obtain ⟨t1, t2⟩ := h1.there
    rcases List.mem_cons.mp hb with z | hb
    · rw [z]; exact t1
    · rcases List.mem_cons.mp hb with z | hb
      · rw [z]; exact t2
      · exact Held.there h5 b hb
  | .par d :: ss, _, _, h, _, _ => h.elim
  | .lck d :: ss, _, _, h, _, _ => h.elim
theorem Apart.imm {p : Addr × Addr} {d : D} (ap : Apart M A δ I p) : Apart M A (δ.set i (some (.imm d))) I p := ⟨ap.i, ap.h, (fun b f j hj => by
  rcases mutAt_set hj with ⟨_, h⟩ | ⟨_, z, e, m⟩
  · exact ap.s b f j h
  · cases e
    cases m), ap.x⟩
theorem Apart.own {p q : Addr × Addr} {d : D} (ap : Apart M A δ I p) (h1 : p.1 ≠ q.1 ∧ p.1 ≠ q.2) (h2 : p.2 ≠ q.1 ∧ p.2 ≠ q.2) : Apart M (plSet A i q) (δ.set i (some (.own d))) I p := ⟨ap.i, ap.h, (fun b f j hj g => by
  rcases mutAt_set hj with ⟨n, h⟩ | ⟨rfl, _⟩
  · exact ap.s b f j h ((fpt_ne n).mp g)
  · rw [fpt_same] at g
    rcases f with f | f
    · rcases g with g | g
      · exact h1.1 (f.symm.trans g)
      · exact h1.2 (f.symm.trans g)
    · rcases g with g | g
      · exact h2.1 (f.symm.trans g)
      · exact h2.2 (f.symm.trans g)), ap.x⟩
theorem Held.imm {d : D} : ∀ {ss : List S} {vs : List V} {F : List Addr}, Held T M A δ I H ss vs F → Held T M A (δ.set i (some (.imm d))) I H ss vs F
  | [], _, _, h => h
  | .imm _ :: ss, _, _, ⟨v, r, e, h1, h2⟩ => ⟨v, r, e, h1, Held.imm h2⟩
  | .own _ :: ss, _, _, ⟨p, r, F', e1, e2, h1, h2, h3, h4, h5⟩ => ⟨p, r, F', e1, e2, h1, h2.imm, h3, h4, Held.imm h5⟩
  | .par _ :: ss, _, _, h => h.elim
  | .lck _ :: ss, _, _, h => h.elim
theorem Held.own {d : D} {q : Addr × Addr} : ∀ {ss : List S} {vs : List V} {F : List Addr}, Held T M A δ I H ss vs F → q.1 ∉ F → q.2 ∉ F → Held T M (plSet A i q) (δ.set i (some (.own d))) I H ss vs F
  | [], _, _, h, _, _ => h
  | .imm _ :: ss, _, _, ⟨v, r, e, h1, h2⟩, n1, n2 => ⟨v, r, e, h1, Held.own h2 n1 n2⟩
  | .own _ :: ss, _, _, ⟨p, r, F', e1, e2, h1, h2, h3, h4, h5⟩, n1, n2 => by
    rw [e2] at n1 n2
    simp only [List.mem_cons, not_or] at n1 n2
    exact ⟨p, r, F', e1, e2, h1, h2.own ⟨Ne.symm n1.1, Ne.symm n2.1⟩ ⟨Ne.symm n1.2.1, Ne.symm n2.2.1⟩, h3, h4, Held.own h5 n1.2.2 n2.2.2⟩
  | .par _ :: ss, _, _, h, _, _ => h.elim
  | .lck _ :: ss, _, _, h, _, _ => h.elim
/-- one of them is put into a slot -/
theorem Held.put {s : S} {ss : List S} {vs : List V} {F : List Addr} (ok : Ok T M A I σ H δ) (h : Held T M A δ I H (s :: ss) vs F) {δ' : Dl} (e : putS i s δ = .ok δ') :
    ∃ v r A' F', vs = v :: r ∧ Ok T M A' I (σ.set i (some v)) H δ' ∧ Held T M A' δ' I H ss r F' := by
  simp only [putS] at e
  split at e
  · rename_i hf
    cases e
    cases s with
    | imm d =>
      obtain ⟨v, r, rfl, h1, h2⟩ := h
      exact ⟨v, r, A, F, rfl, ok.set hf h1, h2.imm⟩
    | own d =>
      obtain ⟨p, r, F', rfl, rfl, h1, h2, h3, h4, h5⟩ := h
      exact ⟨_, r, _, F', rfl, ok.setOwn hf h1 h2, h5.own h3 h4⟩
    | par d => exact h.elim
    | lck d => exact h.elim
  · cases e
def okX : S → Bool
  | .imm _ => true
  | .own _ => true
  | _ => false
/-- one more is made -/
theorem tX_held {f : FX} {Q : VK} {α : Type} {m : S × Dl → Out α} {k : α → Prop} {ss : List S} {vs : List V} {F : List Addr} (ok : Ok T M A I σ H δ) (h : Held T M A δ I H ss vs F) (w : Wants T M E (f δ >>= fun z => if okX z.1 then m z else .stuck) k)
    (hq : ∀ s δ1 v I1 H1 F1, Ok T M A I1 σ H1 δ1 → Held T M A δ1 I1 H1 (s :: ss) (v :: vs) F1 → Wants T M E (m (s, δ1)) k → Q v H1) : tX T E f σ H Q := by
  refine ⟨M, A, I, δ, ok, w.bind.imp fun (s, δ1) e1 w1 => ?_⟩
  cases s with
  | imm d => exact fun v I1 H1 ok1 st1 r => hq (.imm d) δ1 v I1 H1 F ok1 ⟨v, vs, rfl, r, h.step st1⟩ w1
  | own d =>
    refine fun p I1 H1 ok1 st1 o ap n1 n2 => hq (.own d) δ1 _ I1 H1 (p.1 :: p.2 :: F) ok1 ⟨p, vs, F, rfl, rfl, o, ap, fun hb => ?_, fun hb => ?_, h.step st1⟩ w1
    · obtain ⟨u, hu⟩ := h.there _ hb
      rw [n1] at hu
      cases hu
    · obtain ⟨u, hu⟩ := h.there _ hb
      rw [n2] at hu
      cases hu
  | par d => exact w1.elim
  | lck d => exact w1.elim
end
def xX (f : FX) {α : Type} (m : S × Dl → Out α) (δ : Dl) : Out α := f δ >>= fun z => if okX z.1 then m z else .stuck
def par2S (i j : Nat) (f g : FX) : FS := xX f fun (s1, δ1) => xX g (fun (s2, δ2) => putS j s2 δ2 >>= fun δ3 => putS i s1 δ3 >>= fun δ4 => pure (.nx, δ4)) δ1
def par3S (i j l : Nat) (f g h : FX) : FS := xX f fun (s1, δ1) => xX g (fun (s2, δ2) => xX h (fun (s3, δ3) => putS l s3 δ3 >>= fun δ4 => putS j s2 δ4 >>= fun δ5 => putS i s1 δ5 >>= fun δ6 => pure (.nx, δ6)) δ2) δ1
theorem putS_exc {i : Nat} {s : S} {δ : Dl} {x : XD} (h : putS i s δ = .exc x) : False := by
  simp only [putS] at h
  split at h <;> cases h
theorem held_nil {M : Amb} {A : Pl} {δ : Dl} {I H : Hp} : Held T M A δ I H [] [] [] := ⟨rfl, rfl⟩
theorem tPar_of {i j : Nat} (hij : i ≠ j) {f g : FX} {D : Ends} {σ : L2.St} {H : Hp} (h : tS T E (par2S i j f g) D σ H) : tPar i j (tCons (tX T E f) (tCons (tX T E g) tNil)) D σ H := by
  obtain ⟨M, A, I, δ, ok, w⟩ := h
  refine tX_held ok held_nil w fun s1 δ1 v1 I1 H1 F1 ok1 h1 w1 => ?_
  refine tX_held ok1 h1 w1 fun s2 δ2 v2 I2 H2 F2 ok2 h2 w2 => ?_
  replace w2 : Wants T M E (putS j s2 δ2 >>= fun δ3 => putS i s1 δ3 >>= fun δ4 => pure (Fl.nx, δ4)) _ := w2
  cases q : putS j s2 δ2 with
  | stuck => rw [q] at w2; exact w2.elim
  | exc x => exact (putS_exc q).elim
  | ok δ3 =>
    rw [q, ok_bind] at w2
    obtain ⟨v, r, A3, F3, e3, ok3, h3⟩ := h2.put ok2 q
    cases e3
    cases q4 : putS i s1 δ3 with
    | stuck => rw [q4] at w2; exact w2.elim
    | exc x => exact (putS_exc q4).elim
    | ok δ4 =>
      rw [q4, ok_bind] at w2
      obtain ⟨v, r, A4, F4, e4, ok4, h4⟩ := h3.put ok3 q4
      cases e4
      refine ⟨v1, v2, rfl, ?_⟩
      rw [List.set_comm _ _ hij]
      exact w2 A4 I2 _ H2 ok4
theorem tPar3_of {i j l : Nat} (hij : i ≠ j) (hil : i ≠ l) (hjl : j ≠ l) {f g h : FX} {D : Ends} {σ : L2.St} {H : Hp} (hh : tS T E (par3S i j l f g h) D σ H) : tPar3 i j l (tCons (tX T E f) (tCons (tX T E g) (tCons (tX T E h) tNil))) D σ H := by
  obtain ⟨M, A, I, δ, ok, w⟩ := hh
  refine tX_held ok held_nil w fun s1 δ1 v1 I1 H1 F1 ok1 h1 w1 => ?_
  refine tX_held ok1 h1 w1 fun s2 δ2 v2 I2 H2 F2 ok2 h2 w2 => ?_
  refine tX_held ok2 h2 w2 fun s3 δ3 v3 I3 H3 F3 ok3 h3 w3 => ?_
  replace w3 : Wants T M E (putS l s3 δ3 >>= fun δ4 => putS j s2 δ4 >>= fun δ5 => putS i s1 δ5 >>= fun δ6 => pure (Fl.nx, δ6)) _ := w3
  cases q : putS l s3 δ3 with
  | stuck => rw [q] at w3; exact w3.elim
  | exc x => exact (putS_exc q).elim
  | ok δ4 =>
    rw [q, ok_bind] at w3
    obtain ⟨v, r, A4, F4, e4, ok4, h4⟩ := h3.put ok3 q
    cases e4
    cases q5 : putS j s2 δ4 with
    | stuck => rw [q5] at w3; exact w3.elim
    | exc x => exact (putS_exc q5).elim
    | ok δ5 =>
      rw [q5, ok_bind] at w3
      obtain ⟨v, r, A5, F5, e5, ok5, h5⟩ := h4.put ok4 q5
      cases e5
      cases q6 : putS i s1 δ5 with
      | stuck => rw [q6] at w3; exact w3.elim
      | exc x => exact (putS_exc q6).elim
      | ok δ6 =>
        rw [q6, ok_bind] at w3
        obtain ⟨v, r, A6, F6, e6, ok6, h6⟩ := h5.put ok5 q6
        cases e6
        refine ⟨v1, v2, v3, rfl, ?_⟩
        have : ((σ.set i (some v1)).set j (some v2)).set l (some v3) = ((σ.set l (some v3)).set j (some v2)).set i (some v1) := by
          rw [List.set_comm _ _ hij, List.set_comm _ _ hil, List.set_comm _ _ hjl]
        rw [this]
        exact w3 A6 I3 _ H3 ok6
variable {pos px py pz pt pt2 : Pos} {kt k2 : Nat} {i j l : Nat} {x y z : Str} {f g h : FX}
theorem ds_par (hN : X.N.Nodup) (ha : DX T X E a f) (hb : DX T X E b g) (hw : swappedStores [.Tuple [.Name x px, .Name y py] kt pt] (.Tuple [a, b] k2 pt2) X.env = pure (some [x, y])) (hi : X.N[i]? = some x := by rfl) (hj : X.N[j]? = some y := by rfl) (hij : i ≠ j := by decide)
    (hx : X.env.scope.names.lookup x = some .local := by rfl) (hy : X.env.scope.names.lookup y = some .local := by rfl)
    (hs : swapsWithSole [.Tuple [.Name x px, .Name y py] kt pt] (.Tuple [a, b] k2 pt2) pos.line X.env = pure false := by rfl) (hc : X.calm = true := by rfl)
    (hsa : starEach [a, b] X.env = (false, eval a X.env) :: starEach [b] X.env := by rfl) (hsb : starEach [b] X.env = (false, eval b X.env) :: starEach [] X.env := by rfl) :
    DS T X E (.Assign [.Tuple [.Name x px, .Name y py] kt pt] (.Tuple [a, b] k2 pt2) pos) (par2S i j f g) :=
  PS.of (ps_par hc hN hi hj hij hx hy (pa_cons ha (pa_cons hb pa_nil hsb) hsa) hw hs) fun D σ H q => tPar_of hij q
theorem ds_par3 (hN : X.N.Nodup) (ha : DX T X E a f) (hb : DX T X E b g) (hcc : DX T X E c h) (hw : swappedStores [.Tuple [.Name x px, .Name y py, .Name z pz] kt pt] (.Tuple [a, b, c] k2 pt2) X.env = pure (some [x, y, z])) (hi : X.N[i]? = some x := by rfl) (hj : X.N[j]? = some y := by rfl) (hl : X.N[l]? = some z := by rfl)
    (hij : i ≠ j := by decide) (hil : i ≠ l := by decide) (hjl : j ≠ l := by decide) (hx : X.env.scope.names.lookup x = some .local := by rfl) (hy : X.env.scope.names.lookup y = some .local := by rfl) (hz : X.env.scope.names.lookup z = some .local := by rfl)
    (hs : swapsWithSole [.Tuple [.Name x px, .Name y py, .Name z pz] kt pt] (.Tuple [a, b, c] k2 pt2) pos.line X.env = pure false := by rfl) (hc : X.calm = true := by rfl)
    (hsa : starEach [a, b, c] X.env = (false, eval a X.env) :: starEach [b, c] X.env := by rfl) (hsb : starEach [b, c] X.env = (false, eval b X.env) :: starEach [c] X.env := by rfl) (hsc : starEach [c] X.env = (false, eval c X.env) :: starEach [] X.env := by rfl) :
    DS T X E (.Assign [.Tuple [.Name x px, .Name y py, .Name z pz] kt pt] (.Tuple [a, b, c] k2 pt2) pos) (par3S i j l f g h) :=
  PS.of (ps_par3 hc hN hi hj hl hij hil hjl hx hy hz (pa_cons ha (pa_cons hb (pa_cons hcc pa_nil hsc) hsb) hsa) hw hs) fun D σ H q => tPar3_of hij hil hjl q
end
end DE
set_option Elab.async false
set_option linter.all false
set_option maxRecDepth 100000
set_option maxHeartbeats 2000000
namespace DE
open PySem PySem.Spec PyProof.Rows L2

/-! ### range -/
def rngL (lo : Int) : Nat → List D
  | 0 => []
  | n + 1 => .int lo :: rngL (lo + 1) n
theorem rngL_len : ∀ (n : Nat) (lo : Int), (rngL lo n).length = n
  | 0, _ => rfl
  | n + 1, lo => by simp only [rngL, List.length_cons, rngL_len n]
theorem rngL_get : ∀ (n i : Nat) (lo : Int) (d : D), (rngL lo n)[i]? = some d → d = .int (lo + i)
  | 0, i, lo, d, h => by simp [rngL] at h
  | n + 1, 0, lo, d, h => by
    simp only [rngL, List.getElem?_cons_zero, Option.some.injEq] at h
    rw [← h]
    simp
  | n + 1, i + 1, lo, d, h => by
    simp only [rngL, List.getElem?_cons_succ] at h
    rw [rngL_get n i (lo + 1) d h]
    congr 1
    omega
def okRg (i : Int) : Bool := decide (-(2 ^ 62) ≤ i) && decide (i < 2 ^ 62)
def rangeF (fa : FA) : FI := fun δ => do
  let (rs, δ1) ← fa δ
  match rs with
  | [.imm (.int j)] => if okRg j then pure ((rngL 0 j.toNat, none), δ1) else .stuck
  | [.imm (.int i), .imm (.int j)] => if okRg i && okRg j then pure ((rngL i (j - i).toNat, none), δ1) else .stuck
  | _ => .stuck
section
variable {T : Ctx} {X : Cx} {E : XK} {e a b tg o i : Expr} {es : List Expr} {fa fs : FA} {fe fo fi : FE} {p pos apos cpos : Pos}
theorem okRg_iff {i : Int} (h : okRg i = true) : -(2 ^ 62) ≤ i ∧ i < 2 ^ 62 := by simpa [okRg] using h
theorem walk_rng {A : Pl} {I H : Hp} (lo : Int) (n : Nat) : WalkD T (Itr lo n) (rngL lo n) (SrcG T A I H (rngL lo n) none) where
  goes := fun i I2 H2 hi s g => by rw [rngL_len] at hi; exact hi
  stops := fun I2 H2 s g => by rw [rngL_len]; exact Nat.le_refl _
  yields := fun i I2 H2 x H' d hd s g y => by
    obtain ⟨rfl, rfl⟩ := y
    rw [rngL_get _ _ _ _ hd]
    exact ⟨I2, .refl s, .ofint⟩
theorem di_range1 (ha : DA T X E [a] fa) (hm : X.mg "range" = none) (hg : Gl X "range" := by rfl) (hs : starEach [a] X.env = [(false, eval a X.env)] := by rfl) (hl : LenA fa 1 := by exact lenA_cons lenA_nil) : DI T X E tg (.Call (.Name "range" p) [a] [] pos) (rangeF fa) :=
  PI.of (pi_range1 hg hm ha hs) fun σ H R ⟨M, A, I, δ, ok, w⟩ => ⟨M, A, I, δ, ok, w.bind.imp fun (rs, δ1) e1 w1 vs I1 H1 ok1 st1 rr => by
    have hlen := hl _ _ _ e1
    match rs, hlen with
    | [.imm (.int j)], _ =>
      replace w1 : Wants T M E (if okRg j then pure ((rngL 0 j.toNat, (none : Src)), δ1) else .stuck) _ := w1
      split at w1
      · rename_i hj
        obtain ⟨v, _, rfl, r1, e0⟩ := rr
        have e0 : _ = [] := e0
        subst e0
        obtain ⟨h1, h2⟩ := okRg_iff hj
        exact ⟨j, by rw [r1.get.int_inv], h1, h2, w1 _ I1 H1 ok1 st1 trivial (walk_rng 0 j.toNat)⟩
      · exact w1.elim
    | [.slot _], _ => exact w1.elim
    | [.imm .undef], _ => exact w1.elim
    | [.imm .non], _ => exact w1.elim
    | [.imm (.bl _)], _ => exact w1.elim
    | [.imm (.str _)], _ => exact w1.elim
    | [.imm (.tup _)], _ => exact w1.elim
    | [.imm (.lst _)], _ => exact w1.elim
    | [.imm (.frl _)], _ => exact w1.elim
    | [.imm (.dk _ _)], _ => exact w1.elim
    | [.imm (.obj _ _)], _ => exact w1.elim
    | [.imm (.kls _)], _ => exact w1.elim⟩
theorem di_range2 (ha : DA T X E [a, b] fa) (hm : X.mg "range" = none) (hg : Gl X "range" := by rfl) (hs : starEach [a, b] X.env = [(false, eval a X.env), (false, eval b X.env)] := by rfl) (hs2 : starEach [b] X.env = [(false, eval b X.env)] := by rfl) (hl : LenA fa 2 := by exact lenA_cons (lenA_cons lenA_nil)) :
    DI T X E tg (.Call (.Name "range" p) [a, b] [] pos) (rangeF fa) :=
  PI.of (pi_range2 hg hm ha hs hs2) fun σ H R ⟨M, A, I, δ, ok, w⟩ => ⟨M, A, I, δ, ok, w.bind.imp fun (rs, δ1) e1 w1 vs I1 H1 ok1 st1 rr => by
    have hlen := hl _ _ _ e1
    match rs, hlen with
    | [x, y], _ =>
      cases x with
      | slot _ => exact w1.elim
      | imm d =>
        cases d with
        | int j1 =>
          cases y with
          | slot _ => exact w1.elim
          | imm d =>
            cases d with
            | int j2 =>
              replace w1 : Wants T M E (if okRg j1 && okRg j2 then pure ((rngL j1 (j2 - j1).toNat, (none : Src)), δ1) else .stuck) _ := w1
              split at w1
              · rename_i hj
                rw [Bool.and_eq_true] at hj
                obtain ⟨v, _, rfl, r1, v', _, rfl, r2, e0⟩ := rr
                have e0 : _ = [] := e0
                subst e0
                obtain ⟨h1, h2⟩ := okRg_iff hj.1
                obtain ⟨h3, h4⟩ := okRg_iff hj.2
                exact ⟨j1, j2, by rw [r1.get.int_inv, r2.get.int_inv], ⟨h1, h2, h3, h4⟩, w1 _ I1 H1 ok1 st1 trivial (walk_rng j1 _)⟩
              · exact w1.elim
            | _ => exact w1.elim
        | _ => exact w1.elim⟩

/-! ### displays -/
def tupF (fa : FA) : FE := fun δ => do
  let (rs, δ1) ← fa δ
  let (ds, δ2) ← takeRs rs δ1
  if lim ds.length then pure (.imm (.tup ds), δ2) else .stuck
def lstN (fa : FA) : FN := fun δ => do
  let (rs, δ1) ← fa δ
  let (ds, δ2) ← takeRs rs δ1
  if lim ds.length then pure (.lst ds, δ2) else .stuck
theorem de_tup {x1} (ha : DA T X E es fa) : DE T X E (.Tuple es x1 pos) (tupF fa) := PE.of (pe_tup ha) fun σ H Q ⟨M, A, I, δ, ok, w⟩ => ⟨M, A, I, δ, ok, w.bind.imp fun (rs, δ1) e1 w1 vs I1 H1 ok1 st1 rr => by
  replace w1 : Wants T M E (takeRs rs δ1 >>= fun z => if lim z.1.length then pure (R.imm (.tup z.1), z.2) else .stuck) _ := w1
  cases q : takeRs rs δ1 with
  | stuck => rw [q] at w1; exact w1.elim
  | exc x => exact (takeRs_exc q).elim
  | ok z =>
    obtain ⟨ds, δ2⟩ := z
    rw [q, ok_bind] at w1
    obtain ⟨I2, ok2, st2, rd⟩ := ok1.hands rr q
    split at w1
    · rename_i hl
      refine ⟨by rw [rd.len]; exact hl.le, fun p hp => ?_⟩
      obtain ⟨n, rv⟩ := new_tup ok2.sub rd hp
      exact w1 _ _ _ (ok2.new n) ((st1.trans st2).trans n.stp) rv
    · exact w1.elim⟩
theorem dn_lst (ha : DA T X E es fa) : DN T X E (.List es pos) (lstN fa) := PE.of (pe_lst ha) fun σ H Q ⟨M, A, I, δ, ok, w⟩ => ⟨M, A, I, δ, ok, w.bind.imp fun (rs, δ1) e1 w1 vs I1 H1 ok1 st1 rr => by
  replace w1 : Wants T M E (takeRs rs δ1 >>= fun z => if lim z.1.length then pure (D.lst z.1, z.2) else .stuck) _ := w1
  cases q : takeRs rs δ1 with
  | stuck => rw [q] at w1; exact w1.elim
  | exc x => exact (takeRs_exc q).elim
  | ok z =>
    obtain ⟨ds, δ2⟩ := z
    rw [q, ok_bind] at w1
    obtain ⟨I2, ok2, st2, rd⟩ := ok1.hands rr q
    split at w1
    · rename_i hl
      refine ⟨by rw [rd.len]; exact hl.le, fun p hp => ?_⟩
      obtain ⟨k1, k2, k3⟩ := ap_new (d := .lst ds) (o := .lst vs) ok2 hp
      have st := st1.trans st2
      exact w1 (p, p) I2 _ k1 (st.trans k2) ⟨rfl, vs, upd_same, rd⟩ k3 (st.back hp) (st.back hp)
    · exact w1.elim⟩
/-- *e, .. -/
def starA (f : FE) (g : FA) : FA := fun δ => do
  let (r, δ1) ← f δ
  let (d, δ2) ← takeR r δ1
  match d with
  | .tup ds => do
    let (rs, δ3) ← g δ2
    pure (ds.map .imm ++ rs, δ3)
  | .lst ds => do
    let (rs, δ3) ← g δ2
    pure (ds.map .imm ++ rs, δ3)
  | _ => .stuck
theorem repRs_imm {I : Hp} {σ : L2.St} : ∀ {ds : List D} {xs : List V} {rs : List R} {vs : List V}, Reps T I ds xs → RepRs T I σ rs vs → RepRs T I σ (ds.map .imm ++ rs) (xs ++ vs)
  | [], xs, rs, vs, h, r => by
    rw [h.nil_inv]
    exact r
  | d :: ds, xs, rs, vs, h, r => by
    obtain ⟨v, w, rfl, h1, h2⟩ := h.cons_inv
    exact ⟨v, w ++ vs, rfl, h1, repRs_imm h2 r⟩
theorem da_star {f : FE} {g : FA} {sp : Pos} (h : DE T X E e f) (hr : DA T X E es g) (hK : T.K = X.K := by rfl) (hs : starEach (.Starred e sp :: es) X.env = (true, eval e X.env) :: starEach es X.env := by rfl) : DA T X E (.Starred e sp :: es) (starA f g) :=
  PA.of (StX.pa_star h hr hs) fun σ H Q ⟨M, A, I, δ, ok, w⟩ => ⟨M, A, I, δ, ok, w.bind.imp fun (r1, δ1) e1 w1 v1 I1 H1 ok1 st1 rr1 => by
    replace w1 : Wants T M E (takeR r1 δ1 >>= fun z => match z.1 with
      | .tup ds => g z.2 >>= fun y => pure (ds.map .imm ++ y.1, y.2)
      | .lst ds => g z.2 >>= fun y => pure (ds.map .imm ++ y.1, y.2)
      | _ => .stuck) _ := w1
    cases q : takeR r1 δ1 with
    | stuck => rw [q] at w1; exact w1.elim
    | exc x => exact (takeR_exc q).elim
    | ok z =>
      obtain ⟨d, δ2⟩ := z
      rw [q, ok_bind] at w1
      obtain ⟨I2, ok2, st2, rd⟩ := ok1.hand rr1 q
      have key : ∀ {ds : List D} {xs : List V}, Reps T I2 ds xs → Wants T M E (g δ2 >>= fun y => pure (ds.map R.imm ++ y.1, y.2)) (fun x => ∀ vs I' H', Ok T M A I' σ H' x.2 → Stp A δ I H x.2 I' H' → RepRs T I' σ x.1 vs → Q vs H') → tA T E g σ H1 fun ys H2 => Q (xs ++ ys) H2 := fun {ds xs} rx wx =>
        ⟨M, A, I2, δ2, ok2, wx.bind.imp fun (rs, δ3) e3 w3 vs I3 H3 ok3 st3 rr3 => w3 _ I3 H3 ok3 ((st1.trans st2).trans st3) (repRs_imm (rx.mono st3.gro) rr3)⟩
      cases d with
      | tup ds =>
        obtain ⟨a, xs, rfl, hq, rx⟩ := rd.tup_inv
        exact ⟨a, xs, rfl, .inl (by rw [← hK]; exact Same.sqt ok2.sub hq), key rx w1⟩
      | lst ds =>
        obtain ⟨a, xs, rfl, hq, rx⟩ := rd.lst_inv
        exact ⟨a, xs, rfl, .inr (.of (ok2.sub _ _ hq)), key rx w1⟩
      | _ => exact w1.elim⟩

/-! ### x op= e -/
def augS (i : Nat) (g : D → D → Option D) (f : FE) : FS := fun δ => do
  match δ[i]? with
  | some (some (.imm d1)) => do
    let (r, δ1) ← f δ
    let d2 ← res δ1 r
    let d ← ofO (g d1 d2)
    let δ2 ← putS i (.imm d) δ1
    pure (.nx, δ2)
  | _ => .stuck
theorem ds_aug {i : Nat} {x : Str} {op : Operator} {r : R2} {g : D → D → Option D} {f : FE} {pos' : Pos} (hN : X.N.Nodup) (ho : OpR X (inplaceOp op) r) (hG : G2 T r g) (he : DE T X E e f) (hi : X.N[i]? = some x := by rfl) (hx : Loc X.env.scope x := by first | exact Or.inl rfl | exact Or.inr rfl)
    (hf : X.fn x = true ∨ X.env.scope.names.lookup x = some .local := by first | exact .inl rfl | exact .inr rfl) : DS T X E (.AugAssign (.Name x pos') op e pos) (augS i g f) :=
  PS.of (ps_aug hN hi hx he (show PIp X op r from ho) hf) fun D σ H ⟨M, A, I, δ, ok, w⟩ => by
    unfold augS at w
    split at w
    · rename_i d1 hd
      obtain ⟨v, hv, rv⟩ := ok.sl i _ hd
      refine ⟨v, hv, M, A, I, δ, ok, w.bind.imp fun (r1, δ1) e1 w1 y I1 H1 ok1 st1 rr1 => ?_⟩
      replace w1 : Wants T M E (res δ1 r1 >>= fun d2 => ofO (g d1 d2) >>= fun d => putS i (.imm d) δ1 >>= fun δ2 => pure (Fl.nx, δ2)) _ := w1
      cases q1 : res δ1 r1 with
      | stuck => rw [q1] at w1; exact w1.elim
      | exc x => exact (res_exc q1).elim
      | ok d2 =>
        rw [q1, ok_bind] at w1
        cases q2 : g d1 d2 with
        | none => rw [q2] at w1; exact w1.elim
        | some d =>
          rw [q2, ofO_some, ok_bind] at w1
          refine hG ok1.sub (.inl (rv.mono st1.gro)) (ok1.red rr1 q1) q2 fun z I2 H2 n rz => ?_
          have ok2 := ok1.new n
          cases q3 : putS i (.imm d) δ1 with
          | stuck => rw [q3] at w1; exact w1.elim
          | exc x => exact (putS_exc q3).elim
          | ok δ2 =>
            rw [q3, ok_bind] at w1
            simp only [putS] at q3
            split at q3
            · rename_i hf
              cases q3
              exact w1 A I2 _ H2 (ok2.set hf rz)
            · cases q3
    · exact w.elim
def iaddD (a b : D) : Option D := match a, b with
    | .int i, .int j => some (.int (i + j))
    | .str a, .str b => if lim (a.length + b.length) then some (.str (a ++ b)) else none
    | _, _ => none
theorem g_iadd : G2 T (fun x y H Q => rI0 (fun i j => .int (i + j)) x y H Q ∨ ∃ i j, x = .str i ∧ y = .str j ∧ i.length + j.length ≤ sizeLine ∧ Q (.str (i ++ j)) H) iaddD := by
  intro I H d1 d2 d v1 v2 Q s h1 h2 e q
  unfold iaddD at e
  split at e
  · cases e
    exact .inl ⟨_, _, h1.int_inv, h2.int_inv, q _ I H (.refl s) .ofint⟩
  · split at e
    · rename_i a b hl
      cases e
      refine .inr ⟨_, _, h1.str_inv, h2.str_inv, by rw [mkS_length, mkS_length]; exact hl.le, ?_⟩
      rw [mkS_app]
      exact q _ I H (.refl s) .ofstr
    · cases e
  · cases e
theorem ds_iadd {i : Nat} {x : Str} {f : FE} {pos' : Pos} (hN : X.N.Nodup) (he : DE T X E e f) (hi : X.N[i]? = some x := by rfl) (hx : Loc X.env.scope x := by first | exact Or.inl rfl | exact Or.inr rfl)
    (hf : X.fn x = true ∨ X.env.scope.names.lookup x = some .local := by first | exact .inl rfl | exact .inr rfl) : DS T X E (.AugAssign (.Name x pos') .Add e pos) (augS i iaddD f) := ds_aug hN (iop_add.or iop_add_str) g_iadd he hi hx hf
theorem ds_isub {i : Nat} {x : Str} {f : FE} {pos' : Pos} (hN : X.N.Nodup) (he : DE T X E e f) (hi : X.N[i]? = some x := by rfl) (hx : Loc X.env.scope x := by first | exact Or.inl rfl | exact Or.inr rfl)
    (hf : X.fn x = true ∨ X.env.scope.names.lookup x = some .local := by first | exact .inl rfl | exact .inr rfl) : DS T X E (.AugAssign (.Name x pos') .Sub e pos) (augS i subD f) := ds_aug hN iop_sub g_sub he hi hx hf

/-! ### o[i] = e, o a list in a slot -/
def putIx : D → D → D → Option D
  | .lst xs, .int k, d => (ixN xs.length k).map fun j => .lst (xs.set j d)
  | _, _, _ => none
theorem putIx_inv {a b d d' : D} (h : putIx a b d = some d') : ∃ (xs : List D) (k : Int) (jj : Nat), a = .lst xs ∧ b = .int k ∧ ixN xs.length k = some jj ∧ d' = .lst (xs.set jj d) := by
  cases a with
  | lst xs =>
    cases b with
    | int k =>
      simp only [putIx, Option.map_eq_some_iff] at h
      obtain ⟨jj, h1, rfl⟩ := h
      exact ⟨xs, k, jj, rfl, rfl, h1, rfl⟩
    | _ => cases h
  | _ => cases h
def stoP (j : Nat) (di d : D) (δ : Dl) : Out Dl := match δ[j]? with
  | some (some s) => if s.live then (ofO (putIx s.con di d) >>= fun d' => pure (δ.set j (some (s.put d')))) else .stuck
  | _ => .stuck
def stoS (fo fi f : FE) : FS := fun δ => do
  let (r, δ1) ← f δ
  let (d, δ2) ← takeR r δ1
  let (ro, δ3) ← fo δ2
  match ro with
  | .slot j => do
    let (ri, δ4) ← fi δ3
    let di ← res δ4 ri
    let δ5 ← stoP j di d δ4
    pure (.nx, δ5)
  | _ => .stuck
theorem ds_sto {f : FE} {tpos : Pos} (ho : DE T X E o fo) (hi : DE T X E i fi) (he : DE T X E e f)
    (ha : ∀ v, assign (.Subscript o i tpos) X.env v = (do
      let ov ← holding [v] (eval o X.env)
      let iv ← holding [v, ov] (eval i X.env)
      standAt tpos
      holding [v, ov, iv] (setItem ov iv v)
      release [v, ov, iv] []) := by intro _; rfl)
    (hs : swapsWithSole [.Subscript o i tpos] e pos.line X.env = pure false := by rfl) (hw : swappedStores [.Subscript o i tpos] e X.env = pure none := by rfl)
    (h1 : (assignEach [.Subscript o i tpos] X.env).map (·.2) = [assign (.Subscript o i tpos) X.env] := by rfl) : DS T X E (.Assign [.Subscript o i tpos] e pos) (stoS fo fi f) :=
  PS.of (ps_asg he (pg_sub ho hi set_list ha) hs hw h1) fun D σ H ⟨M, A, I, δ, ok, w⟩ => by
    refine ⟨M, A, I, δ, ok, w.bind.imp fun (r, δ1) e1 w1 v I1 H1 ok1 st1 r1 => ?_⟩
    replace w1 : Wants T M E (takeR r δ1 >>= fun z => fo z.2 >>= fun y => match y.1 with
      | .slot j => fi y.2 >>= fun u => res u.2 u.1 >>= fun di => stoP j di z.1 u.2 >>= fun δ5 => pure (Fl.nx, δ5)
      | _ => .stuck) _ := w1
    cases q : takeR r δ1 with
    | stuck => rw [q] at w1; exact w1.elim
    | exc x => exact (takeR_exc q).elim
    | ok z =>
      obtain ⟨d, δ2⟩ := z
      rw [q, ok_bind] at w1
      obtain ⟨I2, ok2, st2, rd⟩ := ok1.hand r1 q
      refine ⟨M, A, I2, δ2, ok2, w1.bind.imp fun (ro, δ3) e3 w3 vo I3 H3 ok3 st3 r3 => ?_⟩
      cases ro with
      | imm d => exact w3.elim
      | slot j =>
        replace w3 : Wants T M E (fi δ3 >>= fun u => res u.2 u.1 >>= fun di => stoP j di d u.2 >>= fun δ5 => pure (Fl.nx, δ5)) _ := w3
        refine ⟨M, A, I3, δ3, ok3, w3.bind.imp fun (ri, δ4) e4 w4 vi I4 H4 ok4 st4 r4 => ?_⟩
        cases q5 : res δ4 ri with
        | stuck => simp only [q5] at w4; exact w4.elim
        | exc x => exact (res_exc q5).elim
        | ok di =>
          simp only [q5, ok_bind, stoP] at w4
          split at w4
          · rename_i s hs
            split at w4
            · rename_i hl
              cases q6 : putIx s.con di d with
              | none => simp only [q6] at w4; exact w4.elim
              | some d' =>
                simp only [q6, ofO_some, ok_bind, pure_ok] at w4
                have rr1 : σ[j]? = some (some vo) := r3
                have ow : σ[j]? = some (some (.ref (A j).1)) ∧ OwnRep T I4 H4 s.con (A j) ∧ ∀ b, fpt A j b → I4 b = none := by
                  have z := ok4.sl j s hs
                  cases s with
                  | own d => exact ⟨z.1, z.2.1, fun b f => (z.2.2 b f).1⟩
                  | par d => exact ⟨z.1, z.2.1, z.2.2.1⟩
                  | _ => cases hl
                obtain ⟨g1, g2, g3⟩ := ow
                rw [rr1] at g1
                cases g1
                have rd4 : Rep T I4 d v := (rd.mono st3.gro).mono st4.gro
                have ri := ok4.red r4 q5
                obtain ⟨xs, k, jj, hcon, rfl, q7, rfl⟩ := putIx_inv q6
                rw [hcon] at g2
                obtain ⟨h12, ys, hy, ry⟩ := own_lst g2
                have := ok4.chg (H' := upd H4 (A j).1 (.lst (ys.set jj v))) (d := .lst (xs.set jj d)) hs hl (.refl _) (fun b u e => by
                  rw [upd_ne fun z => by rw [z, g3 _ (.inl rfl)] at e; cases e]
                  exact ok4.sub _ _ e) (fun b u e => .inl e) (fun b u e nf => by
                  rw [upd_ne fun z => nf (.inl z)]
                  exact e) ⟨h12, _, upd_same, ry.set jj rd4⟩ g3
                exact ⟨_, ys, k, jj, rfl, ri.int_inv, hy, by rw [ry.len]; exact q7, w4 A I4 _ _ this.1⟩
            · exact w4.elim
          · exact w4.elim
end
end DE
set_option Elab.async false
set_option linter.all false
set_option maxRecDepth 100000
set_option maxHeartbeats 2000000
namespace DE
open PySem PySem.Spec PyProof.Rows L2

/-! ### one reading or the other -/
def orE {α : Type} (f g : Dl → Out α) : Dl → Out α := fun δ => match f δ with
  | .stuck => g δ
  | r => r
theorem orE_ok {α : Type} {f g : Dl → Out α} {δ : Dl} {a : α} (h : f δ = .ok a) : orE f g δ = .ok a := by simp only [orE, h]
theorem orE_exc {α : Type} {f g : Dl → Out α} {δ : Dl} {a : XD} (h : f δ = .exc a) : orE f g δ = .exc a := by simp only [orE, h]
theorem orE_st {α : Type} {f g : Dl → Out α} {δ : Dl} (h : f δ = .stuck) : orE f g δ = g δ := by simp only [orE, h]
section
variable {T : Ctx} {X : Cx} {E : XK} {o e a b c tg : Expr} {es : List Expr} {fo fa fb fe : FE} {fs : FA} {p pos apos cpos : Pos}
theorem orE_cases {α : Type} {M : Amb} {f g : Dl → Out α} {δ : Dl} {k : α → Prop} (w : Wants T M E (orE f g δ) k) : Wants T M E (f δ) k ∨ Wants T M E (g δ) k := by
  unfold orE at w
  split at w
  · exact .inr w
  · exact .inl w
theorem de_or2 {f g : FE} (h1 : DE T X E e f) (h2 : DE T X E e g) : DE T X E e (orE f g) := ⟨fun pins s σ H Q I ⟨M, A, J, δ, ok, w⟩ => by
  rcases orE_cases w with w | w
  · exact h1.run pins s σ H Q I ⟨M, A, J, δ, ok, w⟩
  · exact h2.run pins s σ H Q I ⟨M, A, J, δ, ok, w⟩⟩
theorem dn_or2 {f g : FN} (h1 : DN T X E e f) (h2 : DN T X E e g) : DN T X E e (orE f g) := ⟨fun pins s σ H Q I ⟨M, A, J, δ, ok, w⟩ => by
  rcases orE_cases w with w | w
  · exact h1.run pins s σ H Q I ⟨M, A, J, δ, ok, w⟩
  · exact h2.run pins s σ H Q I ⟨M, A, J, δ, ok, w⟩⟩
theorem dt_or2 {f g : FT} (h1 : DT T X E e f) (h2 : DT T X E e g) : DT T X E e (orE f g) := ⟨fun pins s σ H Q I ⟨M, A, J, δ, ok, w⟩ => by
  rcases orE_cases w with w | w
  · exact h1.run pins s σ H Q I ⟨M, A, J, δ, ok, w⟩
  · exact h2.run pins s σ H Q I ⟨M, A, J, δ, ok, w⟩⟩
theorem di_or2 {f g : FI} (h1 : DI T X E tg e f) (h2 : DI T X E tg e g) : DI T X E tg e (orE f g) := ⟨fun pins s σ H Q I ⟨M, A, J, δ, ok, w⟩ => by
  rcases orE_cases w with w | w
  · exact h1.run pins s σ H Q I ⟨M, A, J, δ, ok, w⟩
  · exact h2.run pins s σ H Q I ⟨M, A, J, δ, ok, w⟩⟩
theorem ds_or2 {s : Stmt} {f g : FS} (h1 : DS T X E s f) (h2 : DS T X E s g) : DS T X E s (orE f g) := ⟨fun pins sh σ H Q I ⟨M, A, J, δ, ok, w⟩ => by
  rcases orE_cases w with w | w
  · exact h1.run pins sh σ H Q I ⟨M, A, J, δ, ok, w⟩
  · exact h2.run pins sh σ H Q I ⟨M, A, J, δ, ok, w⟩⟩
/-- what is never reached -/
def offE {α : Type} : Dl → Out α := fun _ => .stuck
theorem de_off : DE T X E e offE := ⟨fun _ _ _ _ _ _ ⟨_, _, _, _, _, w⟩ => w.elim⟩
theorem dn_off : DN T X E e offE := ⟨fun _ _ _ _ _ _ ⟨_, _, _, _, _, w⟩ => w.elim⟩
theorem dt_off : DT T X E e offE := ⟨fun _ _ _ _ _ _ ⟨_, _, _, _, _, w⟩ => w.elim⟩
theorem di_off : DI T X E tg e offE := ⟨fun _ _ _ _ _ _ ⟨_, _, _, _, _, w⟩ => w.elim⟩
theorem ds_off {s : Stmt} : DS T X E s offE := ⟨fun _ _ _ _ _ _ ⟨_, _, _, _, _, w⟩ => w.elim⟩
theorem dss_off {s : List Stmt} : DSs T X E s offE := ⟨fun _ _ _ _ _ _ ⟨_, _, _, _, _, w⟩ => w.elim⟩

/-! ### is None, is not None -/
theorem red_is {I H : Hp} {d : D} {v : V} (h : Red T I H d v) : decide (v = .non) = isNon d := by
  by_cases hd : d = .undef
  · subst hd; exact (red_def h).elim
  · exact red_non h hd
def isNF' (k : Bool) (f : FE) : FE := fun δ => do
  let (r, δ1) ← f δ
  let d ← res δ1 r
  pure (.imm (.bl (isNon d == k)), δ1)
def isNT (k : Bool) (f : FE) : FT := fun δ => do
  let (r, δ1) ← f δ
  let d ← res δ1 r
  pure (isNon d == k, δ1)
theorem tIs_of {k : Bool} {op : CmpOp} {r : R2} (hr : ∀ x H Q, Q (.bl (decide (x = .non) == k)) H → r x .non H Q) {M : Amb} {A : Pl} {I : Hp} {δ : Dl} {σ : L2.St} {H : Hp} {Q : VK} (ok : Ok T M A I σ H δ) {α : Type} {m : D × Dl → Out α} {kk : α → Prop}
    (w : Wants T M E (fa δ >>= fun z => res z.2 z.1 >>= fun d => m (d, z.2)) kk) (h : ∀ d δ1 I1 H1, Ok T M A I1 σ H1 δ1 → Stp A δ I H δ1 I1 H1 → Wants T M E (m (d, δ1)) kk → Q (.bl (isNon d == k)) H1) : tOp r (tE T E fa) (tC .non) σ H Q := by
  refine ⟨M, A, I, δ, ok, w.bind.imp fun (r1, δ1) e1 w1 v1 I1 H1 ok1 st1 rr1 => ?_⟩
  cases q : res δ1 r1 with
  | stuck => simp only [q] at w1; exact w1.elim
  | exc x => exact (res_exc q).elim
  | ok d =>
    simp only [q, ok_bind] at w1
    refine hr v1 H1 Q ?_
    rw [red_is (ok1.red rr1 q)]
    exact h d δ1 I1 H1 ok1 st1 w1
theorem isN_r : ∀ x H Q, Q (.bl (decide (x = .non) == true)) H → (fun x y H Q => y = V.non ∧ Q (.bl (decide (x = .non))) H : R2) x .non H Q := fun x H Q h => ⟨rfl, by simpa using h⟩
theorem notN_r : ∀ x H Q, Q (.bl (decide (x = .non) == false)) H → (fun x y H Q => y = V.non ∧ Q (.bl (!decide (x = .non))) H : R2) x .non H Q := fun x H Q h => ⟨rfl, by
  have e : (!decide (x = V.non)) = (decide (x = V.non) == false) := by cases decide (x = V.non) <;> rfl
  rw [e]; exact h⟩
theorem de_isN {j} {p2 : Pos} (ha : DE T X E a fa) : DE T X E (.Compare a [.Is] [.Constant .none j p2] pos) (isNF' true fa) := PE.of (pe_cmpR op_isN ha pe_non (by rfl)) fun σ H Q ⟨M, A, I, δ, ok, w⟩ =>
  tIs_of (k := true) (op := .Is) (m := fun z => pure (R.imm (.bl (isNon z.1 == true)), z.2)) isN_r ok w fun d δ1 I1 H1 ok1 st1 w1 => w1 _ I1 H1 ok1 st1 (show Rep T I1 (.bl _) _ from .ofbl)
theorem de_notN {j} {p2 : Pos} (ha : DE T X E a fa) : DE T X E (.Compare a [.IsNot] [.Constant .none j p2] pos) (isNF' false fa) := PE.of (pe_cmpR op_notN ha pe_non (by rfl)) fun σ H Q ⟨M, A, I, δ, ok, w⟩ =>
  tIs_of (k := false) (op := .IsNot) (m := fun z => pure (R.imm (.bl (isNon z.1 == false)), z.2)) notN_r ok w fun d δ1 I1 H1 ok1 st1 w1 => w1 _ I1 H1 ok1 st1 (show Rep T I1 (.bl _) _ from .ofbl)
theorem dt_isN {j} {p2 : Pos} (ha : DE T X E a fa) : DT T X E (.Compare a [.Is] [.Constant .none j p2] pos) (isNT true fa) := PT.of (pt_cmpR op_isN ha pe_non (by rfl)) fun σ H Q ⟨M, A, I, δ, ok, w⟩ =>
  tIs_of (k := true) (op := .Is) (m := fun z => pure (isNon z.1 == true, z.2)) isN_r ok w fun d δ1 I1 H1 ok1 st1 w1 => ⟨_, rfl, w1 I1 H1 ok1 st1⟩
theorem dt_notN {j} {p2 : Pos} (ha : DE T X E a fa) : DT T X E (.Compare a [.IsNot] [.Constant .none j p2] pos) (isNT false fa) := PT.of (pt_cmpR op_notN ha pe_non (by rfl)) fun σ H Q ⟨M, A, I, δ, ok, w⟩ =>
  tIs_of (k := false) (op := .IsNot) (m := fun z => pure (isNon z.1 == false, z.2)) notN_r ok w fun d δ1 I1 H1 ok1 st1 w1 => ⟨_, rfl, w1 I1 H1 ok1 st1⟩

/-! ### join and other methods of texts -/
def joinC (s : List Ch) : List (List Ch) → List Ch
  | [] => []
  | [p] => p
  | p :: q :: r => p ++ (s ++ joinC s (q :: r))
open TL in
theorem tl_mkS (l : List Ch) : tl (mkS l) = l.map Fin.val := mkS_cps l
open TL in
theorem joinL_map (s : List Ch) : ∀ ps : List (List Ch), joinL (s.map Fin.val) (ps.map fun z => z.map Fin.val) = (joinC s ps).map Fin.val
  | [] => rfl
  | [p] => rfl
  | p :: q :: r => by
    have := joinL_map s (q :: r)
    simp only [List.map_cons] at this
    simp only [List.map_cons, joinL, joinC, List.map_append, this]
open TL in
theorem join_mkS (s : List Ch) (ps : List (List Ch)) : Txt.join (mkS s) (ps.map mkS) = mkS (joinC s ps) := by
  apply ext_tl
  rw [join_eq, tl_join, tl_mkS, tl_mkS, List.map_map, ← joinL_map]
  congr 1
def lenSum (ps : List (List Ch)) : Nat := (ps.map List.length).sum
def joinD : D → List D → Option D
  | .str s, [.lst xs] => (strsD xs).bind fun ps => if lenSum ps + ps.length * s.length ≤ 16777216 then some (.str (joinC s ps)) else none
  | .str s, [.tup xs] => (strsD xs).bind fun ps => if lenSum ps + ps.length * s.length ≤ 16777216 then some (.str (joinC s ps)) else none
  | _, _ => none
theorem lenSum_mk (ps : List (List Ch)) : ((ps.map mkS).map (·.length)).sum = lenSum ps := by
  unfold lenSum
  rw [List.map_map]
  congr 1
  exact List.map_congr_left fun z _ => mkS_length z
theorem g_join (hK : T.K = X.K) : GM T (fun x xs H Q => ∃ a p, ∃ ys : List Str, x = .str a ∧ xs = [.ref p] ∧ (SqL X.K H p (ys.map V.str) ∨ SqT X.K H p (ys.map V.str)) ∧
    (ys.map (·.length)).sum + ys.length * a.length ≤ 16777216 ∧ Q (.str (Txt.join a ys)) H) joinD := by
  intro I H d0 v0 ds vs d Q s h1 h2 e q
  have fin : ∀ {s' : List Ch} {ps : List (List Ch)}, lenSum ps + ps.length * s'.length ≤ 16777216 → d = .str (joinC s' ps) → ((ps.map mkS).map (·.length)).sum + (ps.map mkS).length * (mkS s').length ≤ 16777216 ∧ Q (.str (Txt.join (mkS s') (ps.map mkS))) H := by
    intro s' ps hl hd
    subst hd
    rw [lenSum_mk, List.length_map, mkS_length, join_mkS]
    exact ⟨hl, q _ I H (.refl s) .ofstr⟩
  unfold joinD at e
  split at e
  · rename_i s' xs
    simp only [Option.bind_eq_some_iff] at e
    obtain ⟨ps, e1, e2⟩ := e
    split at e2
    · rename_i hl
      have := strs_map e1
      subst this
      obtain ⟨v, rfl, r1⟩ := redl1 h2
      obtain ⟨a, ys, rfl, hq, r⟩ := r1.lst_inv s
      obtain ⟨k1, k2⟩ := fin hl (Option.some.inj e2).symm
      exact ⟨mkS s', a, ps.map mkS, h1.str_inv, rfl, .inl (by rw [← reps_strs2 r]; exact .of hq), k1, k2⟩
    · cases e2
  · rename_i s' xs
    simp only [Option.bind_eq_some_iff] at e
    obtain ⟨ps, e1, e2⟩ := e
    split at e2
    · rename_i hl
      have := strs_map e1
      subst this
      obtain ⟨v, rfl, r1⟩ := redl1 h2
      obtain ⟨a, ys, rfl, hq, r⟩ := r1.tup_inv s
      obtain ⟨k1, k2⟩ := fin hl (Option.some.inj e2).symm
      exact ⟨mkS s', a, ps.map mkS, h1.str_inv, rfl, .inr (by rw [← reps_strs2 r, ← hK]; exact hq), k1, k2⟩
    · cases e2
  · cases e
theorem de_join (ho : DE T X E o fo) (he : DA T X E [e] fs) (hK : T.K = X.K := by rfl) (hs : starEach [e] X.env = (false, eval e X.env) :: starEach [] X.env := by rfl) (hbase : attributeBase o "join" X.env (eval o X.env) = eval o X.env := by rfl) (hfew : Few X e [] cpos := by rfl) (hline : (apos.endLine == cpos.line) = true := by rfl) :
    DE T X E (.Call (.Attribute o "join" apos) [e] [] cpos) (mtF "str" joinD fo fs) := de_mt F.plainAttrs_str F.slot_str_join F.type_str_join mt_join (g_join hK) ho he hK hbase hfew hline hs
/-- a text handed back -/
def strO (x : Str) : Option D := if mkS (unS x) = x then some (.str (unS x)) else none
theorem strO_rep {I : Hp} {x : Str} {d : D} (h : strO x = some d) : Rep T I d (.str x) := by
  unfold strO at h
  split at h
  · rename_i hx
    cases h
    have : Rep T I (.str (unS x)) (.str (mkS (unS x))) := .ofstr
    rwa [hx] at this
  · cases h
theorem strO_mk (l : List Ch) : strO (mkS l) = some (.str l) := by
  unfold strO
  rw [unS_mkS, if_pos rfl]
def strM1 (f : Str → Str → Option D) : D → List D → Option D
  | .str a, [.str b] => f (mkS a) (mkS b)
  | _, _ => none
def startsD := strM1 fun a b => some (.bl (Txt.startswith a b))
def endsD := strM1 fun a b => some (.bl (Txt.endswith a b))
def findD := strM1 fun a b => some (.int (Txt.find a b))
def countD := strM1 fun a b => some (.int (Txt.count a b))
def partD := strM1 fun a b => if b.length = 0 then none else if lim a.length then (strO (Txt.partition a b).1).bind fun x => (strO (Txt.partition a b).2.1).bind fun y => (strO (Txt.partition a b).2.2).map fun z => .tup [x, y, z] else none
theorem strM1_inv {I H : Hp} {f : Str → Str → Option D} {d0 d : D} {ds : List D} {v0 : V} {vs : List V} (h1 : Red T I H d0 v0) (h2 : Redl T I H ds vs) (e : strM1 f d0 ds = some d) : ∃ a b, v0 = .str (mkS a) ∧ vs = [.str (mkS b)] ∧ f (mkS a) (mkS b) = some d := by
  unfold strM1 at e
  split at e
  · rename_i a b
    obtain ⟨v, rfl, r1⟩ := redl1 h2
    exact ⟨a, b, h1.str_inv, by rw [r1.str_inv], e⟩
  · cases e
theorem g_starts : GM T (fun x xs H Q => ∃ a b, x = .str a ∧ xs = [.str b] ∧ Q (.bl (Txt.startswith a b)) H) startsD := by
  intro I H d0 v0 ds vs d Q s h1 h2 e q
  obtain ⟨a, b, h3, h4, e⟩ := strM1_inv h1 h2 e
  cases e
  exact ⟨_, _, h3, h4, q _ I H (.refl s) .ofbl⟩
theorem g_ends : GM T (fun x xs H Q => ∃ a b, x = .str a ∧ xs = [.str b] ∧ Q (.bl (Txt.endswith a b)) H) endsD := by
  intro I H d0 v0 ds vs d Q s h1 h2 e q
  obtain ⟨a, b, h3, h4, e⟩ := strM1_inv h1 h2 e
  cases e
  exact ⟨_, _, h3, h4, q _ I H (.refl s) .ofbl⟩
theorem g_find : GM T (fun x xs H Q => ∃ a b, x = .str a ∧ xs = [.str b] ∧ Q (.int (Txt.find a b)) H) findD := by
  intro I H d0 v0 ds vs d Q s h1 h2 e q
  obtain ⟨a, b, h3, h4, e⟩ := strM1_inv h1 h2 e
  cases e
  exact ⟨_, _, h3, h4, q _ I H (.refl s) .ofint⟩
theorem g_count : GM T (fun x xs H Q => ∃ a b, x = .str a ∧ xs = [.str b] ∧ Q (.int (Txt.count a b)) H) countD := by
  intro I H d0 v0 ds vs d Q s h1 h2 e q
  obtain ⟨a, b, h3, h4, e⟩ := strM1_inv h1 h2 e
  cases e
  exact ⟨_, _, h3, h4, q _ I H (.refl s) .ofint⟩
theorem g_part : GM T (fun x xs H Q => ∃ a b, x = .str a ∧ xs = [.str b] ∧ (b.length == 0) = false ∧ a.length ≤ sizeLine ∧
      ∀ p, H p = none → Q (.ref p) (upd H p (.tup [.str (Txt.partition a b).1, .str (Txt.partition a b).2.1, .str (Txt.partition a b).2.2]))) partD := by
  intro I H d0 v0 ds vs d Q s h1 h2 e q
  obtain ⟨a, b, h3, h4, e⟩ := strM1_inv h1 h2 e
  split at e
  · cases e
  · rename_i hb
    split at e
    · rename_i hl
      simp only [Option.bind_eq_some_iff, Option.map_eq_some_iff] at e
      obtain ⟨x, e1, y, e2, z, e3, rfl⟩ := e
      refine ⟨_, _, h3, h4, by simpa using hb, hl.le, fun p hp => ?_⟩
      obtain ⟨n, rv⟩ := new_tup s (.cons (strO_rep e1) (.cons (strO_rep e2) (.cons (strO_rep e3) .nil))) hp
      exact q _ _ _ n rv
    · cases e
theorem de_starts (ho : DE T X E o fo) (he : DA T X E [e] fs) (hK : T.K = X.K := by rfl) (hs : starEach [e] X.env = (false, eval e X.env) :: starEach [] X.env := by rfl) (hbase : attributeBase o "startswith" X.env (eval o X.env) = eval o X.env := by rfl) (hfew : Few X e [] cpos := by rfl) (hline : (apos.endLine == cpos.line) = true := by rfl) :
    DE T X E (.Call (.Attribute o "startswith" apos) [e] [] cpos) (mtF "str" startsD fo fs) := de_mt F.plainAttrs_str F.slot_str_startswith F.type_str_startswith mt_startswith g_starts ho he hK hbase hfew hline hs
theorem de_find (ho : DE T X E o fo) (he : DA T X E [e] fs) (hK : T.K = X.K := by rfl) (hs : starEach [e] X.env = (false, eval e X.env) :: starEach [] X.env := by rfl) (hbase : attributeBase o "find" X.env (eval o X.env) = eval o X.env := by rfl) (hfew : Few X e [] cpos := by rfl) (hline : (apos.endLine == cpos.line) = true := by rfl) :
    DE T X E (.Call (.Attribute o "find" apos) [e] [] cpos) (mtF "str" findD fo fs) := de_mt F.plainAttrs_str F.slot_str_find F.type_str_find mt_find g_find ho he hK hbase hfew hline hs
theorem de_count (ho : DE T X E o fo) (he : DA T X E [e] fs) (hK : T.K = X.K := by rfl) (hs : starEach [e] X.env = (false, eval e X.env) :: starEach [] X.env := by rfl) (hbase : attributeBase o "count" X.env (eval o X.env) = eval o X.env := by rfl) (hfew : Few X e [] cpos := by rfl) (hline : (apos.endLine == cpos.line) = true := by rfl) :
    DE T X E (.Call (.Attribute o "count" apos) [e] [] cpos) (mtF "str" countD fo fs) := de_mt F.plainAttrs_str F.slot_str_count F.type_str_count mt_count g_count ho he hK hbase hfew hline hs
theorem de_part (ho : DE T X E o fo) (he : DA T X E [e] fs) (hK : T.K = X.K := by rfl) (hs : starEach [e] X.env = (false, eval e X.env) :: starEach [] X.env := by rfl) (hbase : attributeBase o "partition" X.env (eval o X.env) = eval o X.env := by rfl) (hfew : Few X e [] cpos := by rfl) (hline : (apos.endLine == cpos.line) = true := by rfl) :
    DE T X E (.Call (.Attribute o "partition" apos) [e] [] cpos) (mtF "str" partD fo fs) := de_mt F.plainAttrs_str F.slot_str_partition F.type_str_partition mt_partition g_part ho he hK hbase hfew hline hs
/-- text.split() -/
def strsO : List Str → Option (List D)
  | [] => some []
  | x :: xs => (strO x).bind fun d => (strsO xs).map (d :: ·)
theorem strsO_reps {I : Hp} : ∀ {xs : List Str} {ds : List D}, strsO xs = some ds → Reps T I ds (xs.map V.str)
  | [], ds, h => by cases h; exact .nil
  | x :: xs, ds, h => by
    simp only [strsO, Option.bind_eq_some_iff, Option.map_eq_some_iff] at h
    obtain ⟨d, h1, ds', h2, rfl⟩ := h
    exact .cons (strO_rep h1) (strsO_reps h2)
def wordsD : D → List D → Option D
  | .str a, [] => if a.length + 2 ≤ 16777216 then (strsO (Txt.words (mkS a))).map .lst else none
  | _, _ => none
theorem g_words : GMN T (fun x xs H Q => ∃ a, x = .str a ∧ xs = [] ∧ a.length + 2 ≤ sizeLine ∧ rNewStrs (Txt.words a) H Q) wordsD := by
  intro I H d0 v0 ds vs d Q s h1 h2 e q
  unfold wordsD at e
  split at e
  · rename_i a
    split at e
    · rename_i hl
      simp only [Option.map_eq_some_iff] at e
      obtain ⟨ds, e1, rfl⟩ := e
      have h2 : vs = [] := h2
      refine ⟨mkS a, h1.str_inv, h2, by rw [mkS_length, line_eq]; exact hl, fun p hp => q p _ hp ⟨rfl, _, upd_same, strsO_reps e1⟩⟩
    · cases e
  · cases e
theorem dn_words (ho : DE T X E o fo) (hK : T.K = X.K := by rfl) (hbase : attributeBase o "split" X.env (eval o X.env) = eval o X.env := by rfl) (hline : (apos.endLine == cpos.line) = true := by rfl) :
    DN T X E (.Call (.Attribute o "split" apos) [] [] cpos) (mtN "str" wordsD fo nilA) := dn_mt0 F.plainAttrs_str F.slot_str_split F.type_str_split mt_words g_words ho hK hbase hline

/-! ### isinstance -/
/-- the value's type by name, the class by number -/
inductive TyD where
  | bi (n : String)
  | cl (c : Nat)
def tyD : D → Option TyD
  | .undef => none
  | .non => some (.bi "NoneType")
  | .bl _ => some (.bi "bool")
  | .int _ => some (.bi "int")
  | .str _ => some (.bi "str")
  | .tup _ => some (.bi "tuple")
  | .lst _ => some (.bi "list")
  | .frl _ => some (.bi "list")
  | .dk _ _ => some (.bi "dict")
  | .obj c _ => some (.cl c)
  | .kls _ => none
def TyD.val (T : Ctx) : TyD → Value
  | .bi n => .type n
  | .cl c => .ref (T.cls c)
def isiF (g : TyD → Option Bool) (f : FE) : FE := fun δ => do
  let (r, δ1) ← f δ
  let d ← res δ1 r
  let t ← ofO (tyD d)
  let b ← ofO (g t)
  pure (.imm (.bl b), δ1)
/-- g answers as the model does -/
structure IsG (T : Ctx) (K : PySem.W.Frag) (u : Value) (g : TyD → Option Bool) : Prop where
  an : ∀ t b, g t = some b → PySem.W.kitOne K (t.val T) u = some b
  cl : ∀ c b, g (.cl c) = some b → SlX.SCls K (T.cls c) ∧ SlX.SIsi K (T.cls c)
theorem tyX_of {K : PySem.W.Frag} (hK : T.K = K) {I H : Hp} (s : Same I H) {d : D} {v : V} {n : String} (h : Red T I H d v) (e : tyD d = some (.bi n)) : TyX K H v (.type n) := by
  subst hK
  have lst : ∀ {a : Addr} {ys : List V}, SqL T.K H a ys → TyX T.K H (.ref a) (.type "list") := fun {a ys} q => by
    rcases q with (q | ⟨o, q⟩) | ⟨o, _, _, h1, h2, _⟩
    · exact .base (.lst q)
    · exact .base (.frz q)
    · exact .kList h1 h2
  cases d with
  | undef => cases e
  | non => cases e; rw [h.non_inv]; exact .base .non
  | bl b => cases e; rw [h.bl_inv]; exact .base (.bl _)
  | int b => cases e; rw [h.int_inv]; exact .base (.int _)
  | str b => cases e; rw [h.str_inv]; exact .base (.str _)
  | tup b =>
    cases e
    obtain ⟨a, ys, rfl, hq, r⟩ := h.tup_inv s
    rcases hq with (q | ⟨o, q⟩) | ⟨o, _, _, h1, h2, _⟩
    · exact .base (.tup q)
    · exact .fTuple q
    · exact .kTuple h1 h2
  | lst b =>
    cases e
    obtain ⟨a, ys, rfl, hq, r⟩ := h.lst_inv s
    exact lst (.of hq)
  | frl b =>
    cases e
    obtain ⟨a, ys, rfl, hq, r⟩ := h.frl_inv s
    exact lst hq
  | dk ks vs =>
    cases e
    obtain ⟨a, kvs, rfl, hq, _, r⟩ := h.dk_inv s
    exact hq.elim (fun hq => .base (.dK hq)) fun ⟨o, hq⟩ => .fDict hq
  | obj c fs => cases e
  | kls c => cases e
def rIsA (K : PySem.W.Frag) (u : Value) : List V → Hp → VK → Prop := fun xs H Q => rIsi K xs H Q ∨ SlX.rIsiSl K u xs H Q
theorem tIsi_of (hK : T.K = X.K) {u : Value} {cv : V} (hc : ClsV cv u) (hrel : RelV cv u) (hone : ∀ w, RelV cv w → w = u) {g : TyD → Option Bool} (hg : IsG T X.K u g) {te : TE} (he : ∀ σ H Q, tE T E fe σ H Q → te σ H Q) : ∀ σ H Q, tE T E (isiF g fe) σ H Q → tCB (rIsA X.K u) (tCons te (tCons (tC cv) tNil)) σ H Q := fun σ H Q ⟨M, A, I, δ, ok, w⟩ => by
  refine he _ _ _ ⟨M, A, I, δ, ok, w.bind.imp fun (r1, δ1) e1 w1 v1 I1 H1 ok1 st1 rr1 => ?_⟩
  replace w1 : Wants T M E (res δ1 r1 >>= fun d => ofO (tyD d) >>= fun t => ofO (g t) >>= fun b => pure (R.imm (.bl b), δ1)) _ := w1
  cases q : res δ1 r1 with
  | stuck => rw [q] at w1; exact w1.elim
  | exc x => exact (res_exc q).elim
  | ok d =>
    rw [q, ok_bind] at w1
    cases q2 : tyD d with
    | none => rw [q2] at w1; exact w1.elim
    | some t =>
      rw [q2, ofO_some, ok_bind] at w1
      cases q3 : g t with
      | none => rw [q3] at w1; exact w1.elim
      | some b =>
        rw [q3, ofO_some, ok_bind] at w1
        have rd := ok1.red rr1 q
        have fin : Q (.bl b) H1 := w1 _ I1 H1 ok1 st1 (show Rep T I1 (.bl b) _ from .ofbl)
        cases t with
        | bi n => exact .inl ⟨v1, cv, .type n, u, b, rfl, hc, tyX_of hK ok1.sub rd q2, hg.an _ _ q3, fin⟩
        | cl c =>
          have hd : ∃ fs, d = .obj c fs := by
            cases d with
            | obj c' fs => cases q2; exact ⟨fs, rfl⟩
            | _ => cases q2
          obtain ⟨fs, rfl⟩ := hd
          obtain ⟨a, dx, vs, rfl, hs, r⟩ := rd.obj_inv ok1.sub
          obtain ⟨h1, h2⟩ := hg.cl c b q3
          exact .inr ⟨a, T.cls c, dx, vs, cv, b, rfl, hrel, hone, hs, h1, h2, hg.an _ _ q3, fin⟩
theorem de_isi {n : String} {x : Str} {p2 : Pos} {g : TyD → Option Bool} (he : DE T X E e fe) (hm : X.mg "isinstance" = none) (hm2 : X.mg x = none) (hG : IsG T X.K (.type n) g) (hg : Gl X "isinstance" := by rfl) (hg2 : Gl X x := by rfl) (hv2 : bootBuiltins x = some (.type n) := by first | rfl | decide +kernel) (hK : T.K = X.K := by rfl)
    (hn2 : x ≠ "__name__" := by decide) (hd2 : (x == ("__debug__" : Str)) = false := by decide)
    (hs : starEach [e, .Name x p2] X.env = (false, eval e X.env) :: starEach [.Name x p2] X.env := by rfl) (hs2 : starEach [.Name x p2] X.env = (false, eval (.Name x p2) X.env) :: starEach [] X.env := by rfl) (hpl : (backTo pos (starEach [.Name x p2] X.env)).any (·.1) = false := by rfl) :
    DE T X E (.Call (.Name "isinstance" p) [e, .Name x p2] [] pos) (isiF g fe) :=
  PE.of (pe_callB (id := "isinstance") (call_isi.or (SlX.call_isiSl (.type n))) hg hm (by first | rfl | decide +kernel) (pa_cons he (pa_cons (pe_bltn (v := .ty n) hg2 hm2 hv2 rfl hn2 hd2) pa_nil hs2) hs) (by decide) (by decide) hs hpl)
    (tIsi_of hK (.ty n) rfl (fun _ h => h) hG fun _ _ _ z => z)
theorem de_isiC {C : Addr} {x : Str} {p2 : Pos} {g : TyD → Option Bool} (he : DE T X E e fe) (hm : X.mg "isinstance" = none) (hm2 : X.mg x = some (.ref C)) (hG : IsG T X.K (.ref C) g) (hg : Gl X "isinstance" := by rfl) (hg2 : Gl X x := by rfl) (hK : T.K = X.K := by rfl) (hd2 : (x == ("__debug__" : Str)) = false := by decide)
    (hs : starEach [e, .Name x p2] X.env = (false, eval e X.env) :: starEach [.Name x p2] X.env := by rfl) (hs2 : starEach [.Name x p2] X.env = (false, eval (.Name x p2) X.env) :: starEach [] X.env := by rfl) (hpl : (backTo pos (starEach [.Name x p2] X.env)).any (·.1) = false := by rfl) :
    DE T X E (.Call (.Name "isinstance" p) [e, .Name x p2] [] pos) (isiF g fe) :=
  PE.of (pe_callB (id := "isinstance") (call_isi.or (SlX.call_isiSl (.ref C))) hg hm (by first | rfl | decide +kernel) (pa_cons he (pa_cons (pe_glob (v := .ref C) hg2 hm2 rfl hd2) pa_nil hs2) hs) (by decide) (by decide) hs hpl)
    (tIsi_of hK (.own C) rfl (fun _ h => h) hG fun _ _ _ z => z)
end
end DE
set_option Elab.async false
set_option linter.all false
set_option maxRecDepth 100000
set_option maxHeartbeats 2000000
namespace DE
open PySem PySem.Spec PyProof.Rows L2

/-! ### instances with slots -/
def slotAt (fs : List D) (i : Nat) : Option D := match fs[i]? with
  | some .undef => none
  | o => o
def slotF (c i : Nat) (fo : FE) : FE := fun δ => do
  let (r, δ1) ← fo δ
  let d ← res δ1 r
  match d with
  | .obj c' fs => if c' = c then (ofO (slotAt fs i) >>= fun d' => pure (.imm d', δ1)) else .stuck
  | _ => .stuck
/-- e.m(..) on an instance of the class c -/
def methF (c : Nat) (F : FnSem) (dds : List D) (fo : FE) (fa : FA) : FE := fun δ => do
  let (r, δ1) ← fo δ
  let (d, δ2) ← takeR r δ1
  match d with
  | .obj c' gs => if c' = c then (fa δ2 >>= fun y => takeRs y.1 y.2 >>= fun u => F ((.obj c' gs :: u.1 ++ dds).map S.imm) >>= fun x => match x.1 with
      | .imm d' => pure (.imm d', u.2)
      | _ => .stuck) else .stuck
  | _ => .stuck
def propF (c : Nat) (F : FnSem) (fo : FE) : FE := methF c (fun ss => noX (F ss)) [] fo nilA
section
variable {T : Ctx} {X : Cx} {E : XK} {o e a b : Expr} {es : List Expr} {fo fa fb fe : FE} {fs : FA} {p pos apos cpos : Pos} {f m : Str}
theorem repSl_at {I : Hp} : ∀ {fs : List D} {vs : List (Option V)} {i : Nat} {d : D}, RepSl T I fs vs → slotAt fs i = some d → ∃ v, vs[i]? = some (some v) ∧ Rep T I d v
  | [], vs, i, d, _, e => by simp [slotAt] at e
  | f :: fs, vs, 0, d, h, e => by
    simp only [RepSl] at h
    obtain ⟨o, r, rfl, q, z⟩ := h
    cases f with
    | undef => simp [slotAt] at e
    | _ =>
      simp only [slotAt, List.getElem?_cons_zero, Option.some.injEq] at e
      subst e
      rcases q with q | ⟨v, rfl, q⟩
      · cases q
      · exact ⟨v, rfl, q⟩
  | f :: fs, vs, i + 1, d, h, e => by
    simp only [RepSl] at h
    obtain ⟨o, r, rfl, q, z⟩ := h
    have e' : slotAt fs i = some d := by simpa [slotAt] using e
    obtain ⟨v, h1, h2⟩ := repSl_at z e'
    exact ⟨v, by simpa using h1, h2⟩
theorem de_slot {c i : Nat} {dp : Addr} (ho : DE T X E o fo) (hc : SlX.SCls X.K (T.cls c)) (hs : SlX.Slot1 X.K (T.cls c) f dp i) (hb : attributeBase o f X.env (eval o X.env) = eval o X.env := by rfl) : DE T X E (.Attribute o f pos) (slotF c i fo) :=
  PE.of (SlX.pe_sl ho hb) fun σ H Q ⟨M, A, I, δ, ok, w⟩ => ⟨M, A, I, δ, ok, w.bind.imp fun (r1, δ1) e1 w1 v1 I1 H1 ok1 st1 rr1 => by
    replace w1 : Wants T M E (res δ1 r1 >>= fun d => match d with
      | .obj c' fs => if c' = c then (ofO (slotAt fs i) >>= fun d' => pure (R.imm d', δ1)) else .stuck
      | _ => .stuck) _ := w1
    cases q : res δ1 r1 with
    | stuck => rw [q] at w1; exact w1.elim
    | exc x => exact (res_exc q).elim
    | ok d =>
      rw [q, ok_bind] at w1
      cases d with
      | obj c' fs =>
        simp only at w1
        split at w1
        · rename_i hcc
          subst hcc
          cases q2 : slotAt fs i with
          | none => rw [q2] at w1; exact w1.elim
          | some d' =>
            rw [q2] at w1
            obtain ⟨a, dx, vs, rfl, hsl, r⟩ := (ok1.red rr1 q).obj_inv ok1.sub
            obtain ⟨v, h1, h2⟩ := repSl_at r q2
            exact ⟨a, _, dx, _, vs, i, v, rfl, hsl, hc, hs, h1, w1 v I1 H1 ok1 st1 h2⟩
        · exact w1.elim
      | _ => exact w1.elim⟩
/-- what the slot holds behind a store -/
def putSl (fs : List D) (i : Nat) (d : D) : List D := (fs ++ List.replicate (i + 1 - fs.length) D.undef).set i d
theorem repSl_len {I : Hp} : ∀ {fs : List D} {vs : List (Option V)}, RepSl T I fs vs → fs.length ≤ vs.length
  | [], _, _ => Nat.zero_le _
  | f :: fs, vs, h => by
    simp only [RepSl] at h
    obtain ⟨o, r, rfl, q, z⟩ := h
    simp only [List.length_cons]
    exact Nat.succ_le_succ (repSl_len z)
theorem repSl_undefs {I : Hp} : ∀ (n : Nat) (vs : List (Option V)), n ≤ vs.length → RepSl T I (List.replicate n D.undef) vs
  | 0, _, _ => by simp [RepSl]
  | n + 1, [], h => by simp at h
  | n + 1, v :: vs, h => by
    simp only [List.replicate_succ, RepSl]
    exact ⟨v, vs, rfl, .inl trivial, repSl_undefs n vs (by simpa using h)⟩
theorem repSl_app {I : Hp} : ∀ {fs : List D} {vs : List (Option V)} {gs : List D} , RepSl T I fs vs → RepSl T I gs (vs.drop fs.length) → RepSl T I (fs ++ gs) vs
  | [], vs, gs, _, h => h
  | f :: fs, vs, gs, h, h2 => by
    simp only [RepSl] at h
    obtain ⟨o, r, rfl, q, z⟩ := h
    simp only [List.cons_append, RepSl]
    exact ⟨o, r, rfl, q, repSl_app z (by simpa using h2)⟩
theorem repSl_set {I : Hp} : ∀ {fs : List D} {vs : List (Option V)} (i : Nat) {d : D} {v : V}, RepSl T I fs vs → Rep T I d v → RepSl T I (fs.set i d) (vs.set i (some v))
  | [], vs, i, d, v, _, _ => by simp [RepSl]
  | f :: fs, vs, 0, d, v, h, r => by
    simp only [RepSl] at h
    obtain ⟨o, rs, rfl, q, z⟩ := h
    simp only [List.set_cons_zero, RepSl]
    exact ⟨_, _, rfl, .inr ⟨v, rfl, r⟩, z⟩
  | f :: fs, vs, i + 1, d, v, h, r => by
    simp only [RepSl] at h
    obtain ⟨o, rs, rfl, q, z⟩ := h
    simp only [List.set_cons_succ, RepSl]
    exact ⟨_, _, rfl, q, repSl_set i z r⟩
theorem repSl_mono_app {I : Hp} : ∀ {fs : List D} {vs ws : List (Option V)}, RepSl T I fs vs → RepSl T I fs (vs ++ ws)
  | [], _, _, _ => by simp [RepSl]
  | f :: fs, vs, ws, h => by
    simp only [RepSl] at h ⊢
    obtain ⟨o, rs, rfl, q, z⟩ := h
    exact ⟨o, rs ++ ws, rfl, q, repSl_mono_app z⟩
theorem repSl_put {I : Hp} {fs : List D} {vs : List (Option V)} {i : Nat} {d : D} {v : V} (h : RepSl T I fs vs) (r : Rep T I d v) : RepSl T I (putSl fs i d) (SlX.putS i v vs) := by
  unfold putSl SlX.putS
  refine repSl_set i ?_ r
  have hl := repSl_len h
  refine repSl_app (repSl_mono_app h) (repSl_undefs _ _ ?_)
  rw [List.length_drop, List.length_append, List.length_replicate]
  omega
/-- self.f = e -/
def stoSlP (c i j : Nat) (d : D) (δ : Dl) : Out Dl := match δ[j]? with
  | some (some s) => if s.live then (match s.con with
    | .obj c' fs => if c' = c then .ok (δ.set j (some (s.put (.obj c' (putSl fs i d))))) else .stuck
    | _ => .stuck) else .stuck
  | _ => .stuck
def stoSlS (c i : Nat) (fo f : FE) : FS := fun δ => do
  let (r, δ1) ← f δ
  let (d, δ2) ← takeR r δ1
  let (ro, δ3) ← fo δ2
  match ro with
  | .slot j => do
    let δ4 ← stoSlP c i j d δ3
    pure (.nx, δ4)
  | _ => .stuck
theorem tSl_of {c i : Nat} {dp : Addr} (hc : SlX.SCls X.K (T.cls c)) (hs : SlX.Slot1 X.K (T.cls c) f dp i) {g : FE} {ta tv : TE} (ha : ∀ σ H Q, tE T E fo σ H Q → ta σ H Q) (hv : ∀ σ H Q, tE T E g σ H Q → tv σ H Q) {D : Ends} {σ : L2.St} {H : Hp} (h : tS T E (stoSlS c i fo g) D σ H) : SlX.sSl X.K ta tv f D σ H := by
  obtain ⟨M, A, I, δ, ok, w⟩ := h
  refine hv _ _ _ ⟨M, A, I, δ, ok, w.bind.imp fun (r, δ1) e1 w1 v I1 H1 ok1 st1 r1 => ?_⟩
  replace w1 : Wants T M E (takeR r δ1 >>= fun z => fo z.2 >>= fun y => match y.1 with
    | .slot j => stoSlP c i j z.1 y.2 >>= fun δ4 => pure (Fl.nx, δ4)
    | _ => .stuck) _ := w1
  cases q : takeR r δ1 with
  | stuck => rw [q] at w1; exact w1.elim
  | exc x => exact (takeR_exc q).elim
  | ok z =>
    obtain ⟨d, δ2⟩ := z
    rw [q, ok_bind] at w1
    obtain ⟨I2, ok2, st2, rd⟩ := ok1.hand r1 q
    refine ha _ _ _ ⟨M, A, I2, δ2, ok2, w1.bind.imp fun (ro, δ3) e3 w3 vo I3 H3 ok3 st3 r3 => ?_⟩
    cases ro with
    | imm d => exact w3.elim
    | slot j =>
      replace w3 : Wants T M E (stoSlP c i j d δ3 >>= fun δ4 => pure (Fl.nx, δ4)) _ := w3
      unfold stoSlP at w3
      split at w3
      · rename_i s hs'
        split at w3
        · rename_i hl
          split at w3
          · rename_i c' fs hcon
            split at w3
            · rename_i hcc
              subst hcc
              have rr1 : σ[j]? = some (some vo) := r3
              have ow : σ[j]? = some (some (.ref (A j).1)) ∧ OwnRep T I3 H3 s.con (A j) ∧ ∀ b, fpt A j b → I3 b = none := by
                have z := ok3.sl j s hs'
                cases s with
                | own d => exact ⟨z.1, z.2.1, fun b f => (z.2.2 b f).1⟩
                | par d => exact ⟨z.1, z.2.1, z.2.2.1⟩
                | _ => cases hl
              obtain ⟨g1, g2, g3⟩ := ow
              rw [rr1] at g1
              cases g1
              rw [hcon] at g2
              obtain ⟨hne, ⟨u, hu⟩, vs, hsl, rsl⟩ := g2
              have rd3 := rd.mono st3.gro
              have eqn : ∀ b, b ≠ (A j).1 → b ≠ (A j).2 → SlX.slH H3 (A j).1 (T.cls c') (A j).2 (SlX.putS i v vs) b = H3 b := fun b h1 h2 => SlX.slH_ne h1 h2
              have := ok3.chg (H' := SlX.slH H3 (A j).1 (T.cls c') (A j).2 (SlX.putS i v vs)) (d := .obj c' (putSl fs i d)) hs' hl (.refl _) (fun b u e => by
                rw [eqn b (fun z => by rw [z, g3 _ (.inl rfl)] at e; cases e) (fun z => by rw [z, g3 _ (.inr rfl)] at e; cases e)]
                exact ok3.sub _ _ e) (fun b u e => .inl e) (fun b u e nf => by
                rw [eqn b (fun z => nf (.inl z)) (fun z => nf (.inr z))]
                exact e) ⟨hne, ⟨_, by unfold SlX.slH; rw [upd_ne hne, upd_same]⟩, _, SlX.slH_slt hne, repSl_put rsl rd3⟩ g3
              exact ⟨(A j).1, _, (A j).2, _, vs, i, rfl, hsl, hc, hs, w3 A I3 _ _ this.1⟩
            · exact w3.elim
          · exact w3.elim
        · exact w3.elim
      · exact w3.elim
theorem ds_stoSl {c i : Nat} {dp : Addr} {g : FE} {pos' : Pos} (ho : DE T X E o fo) (hv : DE T X E e g) (hc : SlX.SCls X.K (T.cls c)) (hs : SlX.Slot1 X.K (T.cls c) f dp i) (hsw : swapsWith e (some (.Attribute o f pos')) pos.line X.env = pure false := by rfl) :
    DS T X E (.Assign [.Attribute o f pos'] e pos) (stoSlS c i fo g) := PS.of (SlX.ps_sl ho hv hsw) fun D σ H h => tSl_of hc hs (fun _ _ _ z => z) (fun _ _ _ z => z) h

/-! ### methods, properties, classmethods -/
theorem spR_imm {n : Nat} {F : FnSem} {M : Amb} {A : Pl} {I H : Hp} {σ : L2.St} {δ : Dl} {ds : List D} {vs : List V} {Q : VK} (ok : Ok T M A I σ H δ) (r : Reps T I ds vs) (hl : ds.length = n) {k : S × Option D → Prop} (w : Wants T M E (F (ds.map S.imm)) k)
    (h : ∀ s p, k (s, p) → ∀ v A' I' H' σ' δ', New I H I' H' → Ok T ⟨H, I, [], []⟩ A' I' σ' H' δ' → RetOk T ⟨H, I, [], []⟩ A' I' H' δ' v s → Q v H') : spF T n F vs H Q E := sp_imm ok r hl w h
theorem tMeth_of {n m' c : Nat} {F : FnSem} {dds : List D} {dvs : List V} {to : TE} {ta : TA} (ho : ∀ σ H Q, tE T E fo σ H Q → to σ H Q) (ht : ∀ σ H Q, tA T E fs σ H Q → ta σ H Q) (hl : LenA fs m') (hd : ∀ I, Reps T I dds dvs) (hn : 1 + m' + dds.length = n) : ∀ σ H Q, tE T E (methF c F dds fo fs) σ H Q → SlX.tMethSl (T.cls c) (fun vs H Q E => spF T n F (vs ++ dvs) H Q E) E to ta σ H Q := fun σ H Q ⟨M, A, I, δ, ok, w⟩ => by
  refine ho _ _ _ ⟨M, A, I, δ, ok, w.bind.imp fun (r0, δ1) e1 w1 v0 I1 H1 ok1 st1 rr1 => ?_⟩
  replace w1 : Wants T M E (takeR r0 δ1 >>= fun z => match z.1 with
    | .obj c' fs' => if c' = c then (fs z.2 >>= fun y => takeRs y.1 y.2 >>= fun u => F ((.obj c' fs' :: u.1 ++ dds).map S.imm) >>= fun x => match x.1 with
      | .imm d' => pure (R.imm d', u.2)
      | _ => .stuck) else .stuck
    | _ => .stuck) _ := w1
  cases q : takeR r0 δ1 with
  | stuck => rw [q] at w1; exact w1.elim
  | exc x => exact (takeR_exc q).elim
  | ok z =>
    obtain ⟨d, δ2⟩ := z
    rw [q, ok_bind] at w1
    obtain ⟨I2, ok2, st2, rd⟩ := ok1.hand rr1 q
    cases d with
    | obj c' gs =>
      simp only at w1
      split at w1
      · rename_i hcc
        subst hcc
        obtain ⟨a, dx, ws, rfl, hsl, rsl⟩ := (show Red T I2 H1 (.obj c' gs) v0 from .inl rd).obj_inv ok2.sub
        refine ⟨a, dx, ws, rfl, hsl, ht _ _ _ ⟨M, A, I2, δ2, ok2, w1.bind.imp fun (rs, δ3) e3 w3 vs I3 H3 ok3 st3 rr3 => ?_⟩⟩
        cases q4 : takeRs rs δ3 with
        | stuck => simp only [q4] at w3; exact w3.elim
        | exc x => exact (takeRs_exc q4).elim
        | ok u =>
          obtain ⟨ds, δ4⟩ := u
          simp only [q4, ok_bind] at w3
          obtain ⟨I4, ok4, st4, rds⟩ := ok3.hands rr3 q4
          have all : Reps T I4 (.obj c' gs :: ds ++ dds) ((V.ref a :: vs) ++ dvs) := (Reps.cons ((rd.mono st3.gro).mono st4.gro) rds).append (hd I4)
          refine sp_imm ok4 all (by rw [List.length_append, List.length_cons, takeRs_len q4, hl _ _ _ e3]; omega) w3.bind fun s p wk v A' I' H' σ' δ' nw ok' ro => ?_
          cases s with
          | imm d' => exact wk v I' H' (ok4.new nw) ((((st1.trans st2).trans st3).trans st4).trans nw.stp) ro
          | _ => exact wk.elim
      · exact w1.elim
    | _ => exact w1.elim
abbrev Mtree (X : Cx) (o : Expr) (m : Str) (apos pos : Pos) (es : List Expr) (pl : Sem Bool) : Prop := eval (.Call (.Attribute o m apos) es [] pos) X.env = (do
      let ov ← eval o X.env
      standAt apos.atName
      let (f, first) ← holding [ov] (getMethod ov m pl)
      callWith pos f first (backTo pos (starEach es X.env)) (backToKw pos (keywordEach [] X.env)))
theorem de_meth {k n m' c : Nat} {g : Addr} {fd : FuncData} {ps : List Str} {F : FnSem} {dds : List D} {dvs : List V} {dus : List Value} {pl : Sem Bool} (FO : FnOk X.prog X.w X.K X.mg X.base (L2.CX X.prog X.w) k g fd ps (spF T n F)) (hb : Binds X.K fd ps dus) (hd : Vals dvs dus) (hdd : ∀ I, Reps T I dds dvs) (ho : DE T X E o fo) (ha : DA T X E (e :: es) fs) (hl : LenA fs m') (c1 : SlX.SCls X.K (T.cls c)) (c2 : Meth X.K (T.cls c) m g) (hr : Room k X.A) (hx : Passes (L2.CX X.prog X.w) X E) (hn : 1 + m' + dds.length = n := by rfl)
    (hst : starEach (e :: es) X.env = (false, eval e X.env) :: starEach es X.env := by rfl) (hpl : (backTo pos (starEach es X.env)).any (·.1) = false := by rfl) (ht : Mtree X o m apos pos (e :: es) pl := by rfl) : DE T X E (.Call (.Attribute o m apos) (e :: es) [] pos) (methF c F dds fo fs) :=
  PE.of (SlX.pe_methSl ho c1 c2 (FO.raw hb hd) hr hx ha hst hpl ht) (tMeth_of (fun _ _ _ z => z) (fun _ _ _ z => z) hl hdd hn)
theorem de_meth0 {k n c : Nat} {g : Addr} {fd : FuncData} {ps : List Str} {F : FnSem} {dds : List D} {dvs : List V} {dus : List Value} {pl : Sem Bool} (FO : FnOk X.prog X.w X.K X.mg X.base (L2.CX X.prog X.w) k g fd ps (spF T n F)) (hb : Binds X.K fd ps dus) (hd : Vals dvs dus) (hdd : ∀ I, Reps T I dds dvs) (ho : DE T X E o fo) (c1 : SlX.SCls X.K (T.cls c)) (c2 : Meth X.K (T.cls c) m g) (hr : Room k X.A) (hx : Passes (L2.CX X.prog X.w) X E) (hn : 1 + 0 + dds.length = n := by rfl)
    (ht : Mtree X o m apos pos [] pl := by rfl) : DE T X E (.Call (.Attribute o m apos) [] [] pos) (methF c F dds fo nilA) :=
  PE.of (SlX.pe_methSl0 ho c1 c2 (FO.raw hb hd) hr hx ht) (tMeth_of (fun _ _ _ z => z) tNil_of lenA_nil hdd hn)
end
end DE
set_option Elab.async false
set_option linter.all false
set_option maxRecDepth 100000
set_option maxHeartbeats 2000000

/-! ### x != y by an own __eq__ -/
namespace PySem.W
open PySem PySem.Calls PyProof.Rows
section
variable {prog : Program} {w : World} {A : Around} {E : Value → Shared → Prop} {s : Shared} {K : Frag} {x C L f : Addr} {h₀ : Heap} {m : Str → Option Value} {ox : Obj} {od : Option Obj} {name : Str} {b tb : Value}
theorem de_ifBoundB {M : Model} {id : String} {args : List Value} {Q : Option Value → Shared → Prop} (X : K.In s.heap) (I : InstAt s.heap x ox C od) (hs : findIn K (.ref C) name = some (some (.builtin id))) (hb : ∀ v, bindSpecial (.builtin id) v = pure (.builtin id, [v]))
    (h : wpAny M A (call (.builtin id) (.ref x :: args)) (fun v => Q (some v)) E s) : wpAny M A (callSpecialIfBound? (.ref x) name args) Q E s := by
  simp only [callSpecialIfBound?, bindSpecialIfBound?]
  refine wpAny_holding (wpAny_bind (wpAny_bind (wpAny_bind (I.type.here ((looks_findIn X hs).here ?_)))))
  refine wpAny_bind (wpAny_askSetting (wpAny_ite ?_))
  have fin : wpAny M A (call (.builtin id) ([.ref x] ++ args) >>= fun v => pure (some v)) Q E s := wpAny_bind (wpAny_mono h (fun v s' h' => wpAny_pure h') fun _ _ h' => h')
  rw [hb]
  split
  · exact wpAny_bind (wpAny_pure (wpAny_pure (by exact fin)))
  · exact wpAny_tryCatch (wpAny_bind (wpAny_pure (wpAny_pure (by exact fin))))
theorem ne_K {Q : Value → Shared → Prop} (hu : A.units + 1 < cLine) (F : Fr h₀ L s.heap m) (X₀ : K.In h₀) (I : InstAt s.heap x ox C od) (hb : Looks (model prog w) s.heap (typeOf b) tb) (hn : notFirst K C tb = true)
    (hne : findIn K (.ref C) "__ne__" = some (some (.builtin "object.__ne__"))) (hs : findIn K (.ref C) "__eq__" = some (some (.ref f))) (hf : isFn K (.ref f) = true) (hm : mroIn K C (.type "object") = some true)
    (h : wpAny (model prog w) A.in1 (call (.ref f) [.ref x, b]) (fun v s' => ∃ k, v = .bool k ∧ Q (.bool (!k)) s') E s) : wpAny (model prog w) A (richCompare .NotEq (.ref x) b) Q E s := by
  have X := X₀.keeps F.keep
  have sub : Looks (model prog w) s.heap (isInstance (.ref x) (.type "object")) true := I.type.andThen (looks_mroIn X hm)
  have one : wpAny (model prog w) A (tryCompare (.ref x) (cmpInfo .NotEq).2.1 b) (fun r s' => ∃ v, r = some v ∧ Q v s') E s := by
    unfold tryCompare
    refine wpAny_bind (de_ifBoundB (name := "__ne__") X I hne (fun v => PySem.F.slot_object_ne.bind v) ?_)
    refine wpAny_call (codeAny_call_builtin PySem.F.slot_object_ne.plain PySem.F.cmpEntry_ne (check_slot PySem.F.cmpKind_ne PySem.F.cmpSplit_ne sub (PySem.F.cmpArgs_ne _ _) ?_))
    unfold Builtin.«object.__ne__»
    repeat (first
      | with_reducible refine wpAny_cRoomFor (A := A.in1) hu ?_
      | (refine wpAny_bind (m := callSpecialIfBound? (.ref x) (PySem.Str.ofString "__eq__") [b])
          (ifBound_K X I hs hf (wpAny_mono h (fun r s' hr => by
            obtain ⟨k, rfl, hq⟩ := hr
            repeat (first | exact ⟨_, rfl, hq⟩ | exact wpAny_pure ⟨_, rfl, hq⟩ | exact wpAny_pure ⟨_, rfl, wpAny_pure ⟨_, rfl, hq⟩⟩ | (refine wpAny_bind (m := truthy (.bool _)) (wpAny_truthy_bool ?_)) | wp_step)) fun _ _ e => e)))
      | wp_step)
  unfold richCompare
  simp only [oneThing_ref]
  refine wpAny_holding (wpAny_bind (wpAny_cRoomFor (Nat.lt_of_succ_lt hu) ?_))
  refine wpAny_bind (I.type.here (wpAny_bind (hb.here ?_)))
  split
  · rename_i q
    have e : subIn K tb (.ref C) = some false := by
      rcases Bool.or_eq_true_iff.mp hn with e | e
      · rw [beq_iff_eq.mp e] at q; simp at q
      · exact beq_iff_eq.mp e
    refine wpAny_bind ((looks_subIn X e).here ?_)
    simp only [Bool.false_eq_true, if_false]
    refine wpAny_bind (wpAny_mono one (fun r s' z => ?_) fun _ _ e => e)
    obtain ⟨v, rfl, hq⟩ := z
    exact wpAny_pure hq
  · refine wpAny_bind (wpAny_pure ?_)
    simp only [Bool.false_eq_true, if_false]
    refine wpAny_bind (wpAny_mono one (fun r s' z => ?_) fun _ _ e => e)
    obtain ⟨v, rfl, hq⟩ := z
    exact wpAny_pure hq
end
end PySem.W

namespace L2
open PySem PySem.Spec PyProof.Rows
section
variable {X : Cx} {CX : CXT} {n : Nat} {C g : Addr} {sp : Sp} {E : XK}
/-- x != y by the own __eq__ -/
def rOwnNe (K : PySem.W.Frag) (C : Addr) (sp : Sp) (E : XK) : R2 := fun x y H Q => ∃ a dx vs b C' dy ws, x = .ref a ∧ y = .ref b ∧ SlX.Slt H a C dx vs ∧ SlX.Slt H b C' dy ws ∧ PySem.W.notFirst K C (.ref C') = true ∧ sp [x, y] H (fun z H' => ∃ k, z = .bl k ∧ Q (.bl (!k)) H') E
theorem op_ownNe (hne : PySem.W.findIn X.K (.ref C) "__ne__" = some (some (.builtin "object.__ne__"))) (hs : PySem.W.findIn X.K (.ref C) "__eq__" = some (some (.ref g))) (hf : PySem.W.isFn X.K (.ref g) = true) (hm : PySem.W.mroIn X.K C (.type "object") = some true) (F : FnR X.prog X.w X.K X.mg X.base CX n g sp)
    (hr : Room (n + 1) X.A) (hx : Passes CX X E) : OpR X (compareOp .NotEq) (rOwnNe X.K C sp E) := by
  intro pins s σ H x y v u Q I rx ry h
  obtain ⟨a, dx, vs, b, C', dy, ws, rfl, rfl, ha, hb, hn, q⟩ := h
  cases (show v = Value.ref a from rx)
  cases (show u = Value.ref b from ry)
  obtain ⟨sl, od, _, J, _⟩ := SlX.slt_inst I ha
  obtain ⟨sl', od', _, J', _⟩ := SlX.slt_inst I hb
  obtain ⟨m, hF⟩ := I.fr
  show wpAny _ _ (richCompare .NotEq _ _) _ _ s
  refine PySem.W.ne_K (tb := .ref C') (by have := hr.un; omega) hF I.ok.mod.kin J J'.type hn hne hs hf hm ?_
  refine wpAny_mono (wpAny_call (SlX.run_at (us := [.ref a, .ref b]) (ws := [.ref a, .ref b]) F hr.in1 I.env0.in1 hx I (.cons rfl (.cons rfl .nil)) q)) (fun w s' z => ?_) fun _ _ x => x
  obtain ⟨z', H', I', rz, k, ez, qz⟩ := z
  subst ez
  exact ⟨k, rz, .bl (!k), H', I', rfl, qz⟩
/-- v in x, x an instance with an own __contains__ -/
def rOwnIn (C : Addr) (neg : Bool) (sp : Sp) (E : XK) : R2 := fun v x H Q => ∃ a dx vs, x = .ref a ∧ SlX.Slt H a C dx vs ∧ sp [x, v] H (fun z H' => ∃ k, z = .bl k ∧ Q (.bl (k != neg)) H') E
theorem op_ownIn (hs : PySem.W.findIn X.K (.ref C) "__contains__" = some (some (.ref g))) (hf : PySem.W.isFn X.K (.ref g) = true) (F : FnR X.prog X.w X.K X.mg X.base CX n g sp) (hr : Room n X.A) (hx : Passes CX X E) : OpR X (compareOp .In) (rOwnIn C false sp E) := by
  intro pins s σ H x y v u Q I rx ry h
  obtain ⟨a, dx, vs, rfl, ha, q⟩ := h
  cases (show u = Value.ref a from ry)
  obtain ⟨sl, od, _, J, _⟩ := SlX.slt_inst I ha
  obtain ⟨m, hF⟩ := I.fr
  refine PySem.W.in_K hF I.ok.mod.kin J hs hf ?_
  refine wpAny_mono (wpAny_call (run_fnR (us := [.ref a, v]) (vs := [.ref a, x]) F hr hx I (.cons rfl (.cons rx .nil)) q)) (fun w s' z => ?_) fun _ _ x => x
  obtain ⟨z', H', I', rz, k, ez, qz⟩ := z
  subst ez
  obtain rfl : w = .bool k := rz
  exact wpAny_truthy_bool ⟨.bl k, H', I', rfl, by simpa using qz⟩
theorem op_ownNotIn (hs : PySem.W.findIn X.K (.ref C) "__contains__" = some (some (.ref g))) (hf : PySem.W.isFn X.K (.ref g) = true) (F : FnR X.prog X.w X.K X.mg X.base CX n g sp) (hr : Room n X.A) (hx : Passes CX X E) : OpR X (compareOp .NotIn) (rOwnIn C true sp E) := by
  intro pins s σ H x y v u Q I rx ry h
  obtain ⟨a, dx, vs, rfl, ha, q⟩ := h
  cases (show u = Value.ref a from ry)
  obtain ⟨sl, od, _, J, _⟩ := SlX.slt_inst I ha
  obtain ⟨m, hF⟩ := I.fr
  refine PySem.W.notIn_K hF I.ok.mod.kin J hs hf ?_
  refine wpAny_mono (wpAny_call (run_fnR (us := [.ref a, v]) (vs := [.ref a, x]) F hr hx I (.cons rfl (.cons rx .nil)) q)) (fun w s' z => ?_) fun _ _ x => x
  obtain ⟨z', H', I', rz, k, ez, qz⟩ := z
  subst ez
  obtain rfl : w = .bool k := rz
  exact wpAny_truthy_bool ⟨.bl (!k), H', I', rfl, by simpa using qz⟩
/-- len(x), an own __len__ -/
def rOwnLen (C : Addr) (sp : Sp) (E : XK) : List V → Hp → VK → Prop := fun xs H Q => ∃ a dx vs, xs = [.ref a] ∧ SlX.Slt H a C dx vs ∧ sp [.ref a] H (fun z H' => ∃ i : Int, z = .int i ∧ (0 ≤ i ∧ i < 2 ^ 63) ∧ Q (.int i) H') E
theorem call_ownLen (hs : PySem.W.findIn X.K (.ref C) "__len__" = some (some (.ref g))) (hf : PySem.W.isFn X.K (.ref g) = true) (F : FnR X.prog X.w X.K X.mg X.base CX n g sp) (hr : Room (n + 1) X.A) (hx : Passes CX X E) : CallR X (.builtin "len") (rOwnLen C sp E) := by
  intro pins s σ H xs us Q I r h
  obtain ⟨a, dx, vs, rfl, ha, q⟩ := h
  obtain ⟨u, rfl, ru⟩ := r.one
  cases (show u = Value.ref a from ru)
  obtain ⟨sl, od, _, J, _⟩ := SlX.slt_inst I ha
  obtain ⟨m, hF⟩ := I.fr
  refine PySem.W.len_K hF I.ok.mod.kin J hs hf ?_
  refine wpAny_mono (wpAny_call (SlX.run_at (us := [.ref a]) (ws := [.ref a]) F hr.in1 I.env0.in1 hx I (.cons rfl .nil) q)) (fun w s' z => ?_) fun _ _ x => x
  obtain ⟨z', H', I', rz, i, ez, hi, qz⟩ := z
  subst ez
  obtain ⟨t, rfl⟩ := (show ∃ t, w = Value.int i t from rz)
  exact ⟨hi, .int i, H', I'.tok _, ⟨_, rfl⟩, qz⟩
/-- ~x, an own __invert__ -/
def rOwnInv (C : Addr) (sp : Sp) (E : XK) : V → Hp → VK → Prop := fun x H Q => ∃ a dx vs, x = .ref a ∧ SlX.Slt H a C dx vs ∧ sp [.ref a] H Q E
theorem un_ownInv (hs : PySem.W.findIn X.K (.ref C) "__invert__" = some (some (.ref g))) (hf : PySem.W.isFn X.K (.ref g) = true) (F : FnR X.prog X.w X.K X.mg X.base CX n g sp) (hr : Room n X.A) (hx : Passes CX X E) : UnR X (unaryOp .Invert) (rOwnInv C sp E) := by
  intro pins s σ H x v Q I rx h
  obtain ⟨a, dx, vs, rfl, ha, q⟩ := h
  cases (show v = Value.ref a from rx)
  obtain ⟨sl, od, _, J, _⟩ := SlX.slt_inst I ha
  obtain ⟨m, hF⟩ := I.fr
  refine PySem.W.ksp_inv hF I.ok.mod.kin J hs hf ?_
  exact wpAny_call (run_fnR (us := [.ref a]) (vs := [.ref a]) F hr hx I (.cons rfl .nil) q)
/-- x + y, x * y by an own def, both of one class -/
def rOwnBin (C : Addr) (sp : Sp) (E : XK) : R2 := fun x y H Q => ∃ a dx vs b dy ws, x = .ref a ∧ y = .ref b ∧ SlX.Slt H a C dx vs ∧ SlX.Slt H b C dy ws ∧ sp [x, y] H Q E
theorem op_ownBin {op : Operator} (hc : PySem.W.selfFirst X.K C = true) (hs : PySem.W.findIn X.K (.ref C) (PySem.dunder op.info.2) = some (some (.ref g))) (hf : PySem.W.isFn X.K (.ref g) = true) (F : FnR X.prog X.w X.K X.mg X.base CX n g sp) (hr : Room n X.A) (hx : Passes CX X E) : OpR X (binaryOp op) (rOwnBin C sp E) := by
  intro pins s σ H x y v u Q I rx ry h
  obtain ⟨a, dx, vs, b, dy, ws, rfl, rfl, ha, hb, q⟩ := h
  cases (show v = Value.ref a from rx)
  cases (show u = Value.ref b from ry)
  obtain ⟨sl, od, _, J, _⟩ := SlX.slt_inst I ha
  obtain ⟨sl', od', _, J', _⟩ := SlX.slt_inst I hb
  obtain ⟨m, hF⟩ := I.fr
  refine PySem.W.binop_K hF I.ok.mod.kin J J'.type hc hs hf ?_
  refine wpAny_mono (wpAny_call (run_fnR (us := [.ref a, .ref b]) (vs := [.ref a, .ref b]) F hr hx I (.cons rfl (.cons rfl .nil)) q)) (fun w s' z => ?_) fun _ _ x => x
  obtain ⟨z', H', I', rz, qz⟩ := z
  exact SlX.cmpback rz ⟨z', H', I', rz, qz⟩
end
end L2
set_option Elab.async false
set_option linter.all false
set_option maxRecDepth 100000
set_option maxHeartbeats 2000000
namespace DE
open PySem PySem.Spec PyProof.Rows L2

/-! ### own operators, on data -/
/-- F on one or two instances, what it hands back looked at -/
def ownF (ok : D → Bool) (F : FnSem) (post : D → Option D) (fa : FA) : FE := fun δ => do
  let (rs, δ1) ← fa δ
  let (ds, δ2) ← takeRs rs δ1
  match ds with
  | d :: ds' => if ok d && ds'.all ok then (F ((d :: ds').map S.imm) >>= fun x => match x.1 with
      | .imm d' => ofO (post d') >>= fun d'' => pure (.imm d'', δ2)
      | _ => .stuck) else .stuck
  | [] => .stuck
def isC (c : Nat) : D → Bool
  | .obj c' _ => c' == c
  | _ => false
section
variable {T : Ctx} {X : Cx} {E : XK} {o e a b : Expr} {es : List Expr} {fo fa fb fe : FE} {fs : FA} {p pos apos cpos : Pos} {f m : Str}
theorem own_core {M : Amb} {A : Pl} {I H : Hp} {σ : L2.St} {δ : Dl} {rs : List R} {vs : List V} {n : Nat} {ok : D → Bool} {F : FnSem} {post : D → Option D} {k : R × Dl → Prop} (o1 : Ok T M A I σ H δ) (rr : RepRs T I σ rs vs) (hn : rs.length = n) {Q : VK} {Qi : VK} {PRE : Prop}
    (w : Wants T M E (takeRs rs δ >>= fun z => match z.1 with
      | d :: ds' => if ok d && ds'.all ok then (F ((d :: ds').map S.imm) >>= fun x => match x.1 with
          | .imm d' => ofO (post d') >>= fun d'' => pure (R.imm d'', z.2)
          | _ => .stuck) else .stuck
      | [] => .stuck) k)
    (hpost : ∀ d d' v I' H', post d = some d' → Rep T I' d v → (∀ v', Rep T I' d' v' → Q v' H') → Qi v H')
    (fin : ∀ d'' δ1 v I' H', k (R.imm d'', δ1) → Ok T M A I' σ H' δ1 → Stp A δ I H δ1 I' H' → Rep T I' d'' v → Q v H')
    (hpre : ∀ I' (ds : List D), Same I' H → Reps T I' ds vs → (∀ d ∈ ds, ok d = true) → spF T n F vs H Qi E → PRE) : PRE := by
  cases q : takeRs rs δ with
  | stuck => rw [q] at w; exact w.elim
  | exc x => exact (takeRs_exc q).elim
  | ok z =>
    obtain ⟨ds, δ2⟩ := z
    rw [q, ok_bind] at w
    obtain ⟨I2, ok2, st2, rds⟩ := o1.hands rr q
    cases ds with
    | nil => exact w.elim
    | cons d ds' =>
      simp only at w
      split at w
      · rename_i hok
        rw [Bool.and_eq_true, List.all_eq_true] at hok
        refine hpre I2 (d :: ds') ok2.sub rds (fun x hx => (List.mem_cons.mp hx).elim (fun z => by rw [z]; exact hok.1) fun z => hok.2 x z) ?_
        refine sp_imm ok2 rds (by rw [takeRs_len q, hn]) w.bind fun s p wk v A' I' H' σ' δ' nw ok' ro => ?_
        cases s with
        | imm d' =>
          cases q3 : post d' with
          | none => simp only [q3] at wk; exact wk.elim
          | some d'' =>
            simp only [q3] at wk
            exact hpost d' d'' v I' H' q3 ro fun v' r' => fin d'' δ2 v' I' H' wk (ok2.new nw) (st2.trans nw.stp) r'
        | _ => exact wk.elim
      · exact w.elim
theorem isC_inv {c : Nat} {d : D} (h : isC c d = true) : ∃ fs, d = .obj c fs := by
  cases d with
  | obj c' fs => exact ⟨fs, by rw [eq_of_beq h]⟩
  | _ => cases h
theorem rep_isC {c : Nat} {d : D} {I H : Hp} {v : V} (s : Same I H) (r : Rep T I d v) (h : isC c d = true) : ∃ a dx vs, v = .ref a ∧ SlX.Slt H a (T.cls c) dx vs := by
  obtain ⟨fs, rfl⟩ := isC_inv h
  obtain ⟨a, dx, vs, e, hs, _⟩ := (show Red T I H (.obj c fs) v from .inl r).obj_inv s
  exact ⟨a, dx, vs, e, hs⟩
def someD (d : D) : Option D := some d
def notBl : D → Option D
  | .bl k => some (.bl (!k))
  | _ => none
def isBl : D → Option D
  | .bl k => some (.bl k)
  | _ => none
def smallNat : D → Option D
  | .int i => if 0 ≤ i ∧ i < 2 ^ 63 then some (.int i) else none
  | _ => none
/-- the rows of a two-place operator -/
def two (fa fb : FE) : FA := consA fa (consA fb nilA)
theorem two_of {M : Amb} {A : Pl} {I : Hp} {δ : Dl} {σ : L2.St} {H : Hp} {Q : V → V → Hp → Prop} {α : Type} {m : List R × Dl → Out α} {k : α → Prop} (ok : Ok T M A I σ H δ) (w : Wants T M E (two fa fb δ >>= m) k)
    (h : ∀ r1 r2 δ2 v1 v2 I2 H2, Ok T M A I2 σ H2 δ2 → Stp A δ I H δ2 I2 H2 → RepRs T I2 σ [r1, r2] [v1, v2] → Wants T M E (m ([r1, r2], δ2)) k → Q v1 v2 H2) : tE T E fa σ H fun x H1 => tE T E fb σ H1 fun y H2 => Q x y H2 := by
  have w' : Wants T M E (fa δ >>= fun z => fb z.2 >>= fun y => m ([z.1, y.1], y.2)) k := by
    have e : (two fa fb δ >>= m) = (fa δ >>= fun z => fb z.2 >>= fun y => m ([z.1, y.1], y.2)) := by
      unfold two consA nilA
      cases fa δ with
      | stuck => rfl
      | exc x => rfl
      | ok z =>
        obtain ⟨r1, δ1⟩ := z
        show ((fb δ1 >>= _) >>= _) >>= _ = (fb δ1 >>= fun y => m ([r1, y.1], y.2))
        cases h2 : fb δ1 with
        | stuck => rfl
        | exc x => rfl
        | ok y => rfl
    rw [e] at w
    exact w
  refine ⟨M, A, I, δ, ok, w'.bind.imp fun (r1, δ1) e1 w1 v1 I1 H1 ok1 st1 rr1 => ?_⟩
  refine ⟨M, A, I1, δ1, ok1, w1.bind.imp fun (r2, δ2) e2 w2 v2 I2 H2 ok2 st2 rr2 => ?_⟩
  exact h r1 r2 δ2 v1 v2 I2 H2 ok2 (st1.trans st2) ⟨v1, _, rfl, rr1.mono st2.gro, v2, _, rfl, rr2, rfl⟩ w2
variable {k n c : Nat} {g : Addr} {fd : FuncData} {ps : List Str} {F : FnSem}
theorem fnR_of (FO : FnOk X.prog X.w X.K X.mg X.base (L2.CX X.prog X.w) k g fd ps (spF T n F)) (hb : Binds X.K fd ps []) : FnR X.prog X.w X.K X.mg X.base (L2.CX X.prog X.w) k g (spF T n F) :=
  (FO.raw hb (.nil : Vals [] [])).imp fun vs H Q E h => by rw [List.append_nil]; exact h
/-- == and != by the own __eq__ -/
theorem own2_of {r : R2} {post : D → Option D} {Qp : VK → VK} (hr : ∀ x y H Q, (∃ a dx vs b dy ws, x = V.ref a ∧ y = V.ref b ∧ SlX.Slt H a (T.cls c) dx vs ∧ SlX.Slt H b (T.cls c) dy ws) → spF T 2 F [x, y] H (Qp Q) E → r x y H Q)
    (hpost : ∀ Q d d' v (I' H' : Hp), post d = some d' → Rep T I' d v → (∀ v', Rep T I' d' v' → Q v' H') → Qp Q v H') : ∀ σ H Q, tE T E (ownF (isC c) F post (two fa fb)) σ H Q → tOp r (tE T E fa) (tE T E fb) σ H Q := fun σ H Q ⟨M, A, I, δ, ok, w⟩ => by
  refine two_of ok (m := fun z => takeRs z.1 z.2 >>= fun z => match z.1 with
      | d :: ds' => if isC c d && ds'.all (isC c) then (F ((d :: ds').map S.imm) >>= fun x => match x.1 with
          | .imm d' => ofO (post d') >>= fun d'' => pure (R.imm d'', z.2)
          | _ => .stuck) else .stuck
      | [] => .stuck) w fun r1 r2 δ2 v1 v2 I2 H2 ok2 st2 rr w2 => ?_
  refine own_core (n := 2) (Q := Q) (Qi := Qp Q) ok2 rr rfl w2 (hpost Q) (fun d'' δ3 v I' H' hk ok3 st3 rv => hk v I' H' ok3 (st2.trans st3) rv) fun I' ds sm rds hok sp => ?_
  obtain ⟨d1, d2, rfl⟩ : ∃ d1 d2, ds = [d1, d2] := by
    have := rds.len
    match ds, this with
    | [d1, d2], _ => exact ⟨d1, d2, rfl⟩
  obtain ⟨v, w, e, k1, k2⟩ := rds.cons_inv
  cases e
  obtain ⟨v, w, e, k3, k4⟩ := k2.cons_inv
  cases e
  obtain ⟨a, dx, vs, rfl, ha⟩ := rep_isC sm k1 (hok _ List.mem_cons_self)
  obtain ⟨b, dy, ws, rfl, hb⟩ := rep_isC sm k3 (hok _ (List.mem_cons_of_mem _ List.mem_cons_self))
  exact hr _ _ _ _ ⟨a, dx, vs, b, dy, ws, rfl, rfl, ha, hb⟩ sp
abbrev OwnEq (X : Cx) (C : Addr) (g : Addr) : Prop := PySem.W.findIn X.K (.ref C) "__eq__" = some (some (.ref g)) ∧ PySem.W.isFn X.K (.ref g) = true ∧ PySem.W.notFirst X.K C (.ref C) = true
theorem eqO_of (FO : FnOk X.prog X.w X.K X.mg X.base (L2.CX X.prog X.w) k g fd ps (spF T 2 F)) (hb : Binds X.K fd ps []) (h1 : OwnEq X (T.cls c) g) (hr : Room (k + 1) X.A) (hx : Passes (L2.CX X.prog X.w) X E) :
    ∃ r, OpR X (compareOp .Eq) r ∧ ∀ σ H Q, tE T E (ownF (isC c) F someD (two fa fb)) σ H Q → tOp r (tE T E fa) (tE T E fb) σ H Q :=
  ⟨_, SlX.op_own (op := .Eq) (fun _ _ => rfl) h1.1 h1.2.1 (fnR_of FO hb) (hr.mono (Nat.le_succ k)) hx,
    own2_of (Qp := fun Q => Q) (fun x y H Q ⟨a, dx, vs, b, dy, ws, e1, e2, h3, h4⟩ sp => ⟨a, dx, vs, b, _, dy, ws, e1, e2, h3, h4, h1.2.2, sp⟩) fun Q d d' v I' H' e r q => by
      cases e
      exact q v r⟩
abbrev OwnNe (X : Cx) (C : Addr) (g : Addr) : Prop := OwnEq X C g ∧ PySem.W.findIn X.K (.ref C) "__ne__" = some (some (.builtin "object.__ne__")) ∧ PySem.W.mroIn X.K C (.type "object") = some true
theorem neO_of (FO : FnOk X.prog X.w X.K X.mg X.base (L2.CX X.prog X.w) k g fd ps (spF T 2 F)) (hb : Binds X.K fd ps []) (h1 : OwnNe X (T.cls c) g) (hr : Room (k + 1) X.A) (hx : Passes (L2.CX X.prog X.w) X E) :
    ∃ r, OpR X (compareOp .NotEq) r ∧ ∀ σ H Q, tE T E (ownF (isC c) F notBl (two fa fb)) σ H Q → tOp r (tE T E fa) (tE T E fb) σ H Q :=
  ⟨_, op_ownNe h1.2.1 h1.1.1 h1.1.2.1 h1.2.2 (fnR_of FO hb) hr hx,
    own2_of (Qp := fun Q z H' => ∃ k, z = .bl k ∧ Q (.bl (!k)) H') (fun x y H Q ⟨a, dx, vs, b, dy, ws, e1, e2, h3, h4⟩ sp => ⟨a, dx, vs, b, _, dy, ws, e1, e2, h3, h4, h1.1.2.2, sp⟩) fun Q d d' v I' H' e r q => by
      cases d with
      | bl k =>
        cases e
        exact ⟨k, r.bl_inv, q _ .ofbl⟩
      | _ => cases e⟩
theorem de_cmpO {op : CmpOp} {r : R2} {f : FE} (ho : OpR X (compareOp op) r) (h : ∀ σ H Q, tE T E f σ H Q → tOp r (tE T E fa) (tE T E fb) σ H Q) (ha : DE T X E a fa) (hb : DE T X E b fb) (hm : behindInMarks op b = false) : DE T X E (.Compare a [op] [b] pos) f := PE.of (pe_cmpR ho ha hb hm) h
theorem dt_cmpO {op : CmpOp} {r : R2} {f : FE} (ho : OpR X (compareOp op) r) (h : ∀ σ H Q, tE T E f σ H Q → tOp r (tE T E fa) (tE T E fb) σ H Q) (ha : DE T X E a fa) (hb : DE T X E b fb) (hm : behindInMarks op b = false) : DT T X E (.Compare a [op] [b] pos) (boolF f) :=
  PT.of (pt_cmpR ho ha hb hm) fun _ _ _ z => tTest_of (fun z => h _ _ _ z) z
theorem de_eqO (FO : FnOk X.prog X.w X.K X.mg X.base (L2.CX X.prog X.w) k g fd ps (spF T 2 F)) (hb : Binds X.K fd ps []) (h1 : OwnEq X (T.cls c) g) (hr : Room (k + 1) X.A) (hx : Passes (L2.CX X.prog X.w) X E) (ha : DE T X E a fa) (hb' : DE T X E b fb) : DE T X E (.Compare a [.Eq] [b] pos) (ownF (isC c) F someD (two fa fb)) := by
  obtain ⟨r, h2, h3⟩ := eqO_of (fa := fa) (fb := fb) FO hb h1 hr hx
  exact de_cmpO h2 h3 ha hb' (nomark _)
theorem dt_eqO (FO : FnOk X.prog X.w X.K X.mg X.base (L2.CX X.prog X.w) k g fd ps (spF T 2 F)) (hb : Binds X.K fd ps []) (h1 : OwnEq X (T.cls c) g) (hr : Room (k + 1) X.A) (hx : Passes (L2.CX X.prog X.w) X E) (ha : DE T X E a fa) (hb' : DE T X E b fb) : DT T X E (.Compare a [.Eq] [b] pos) (boolF (ownF (isC c) F someD (two fa fb))) := by
  obtain ⟨r, h2, h3⟩ := eqO_of (fa := fa) (fb := fb) FO hb h1 hr hx
  exact dt_cmpO h2 h3 ha hb' (nomark _)
theorem de_neO (FO : FnOk X.prog X.w X.K X.mg X.base (L2.CX X.prog X.w) k g fd ps (spF T 2 F)) (hb : Binds X.K fd ps []) (h1 : OwnNe X (T.cls c) g) (hr : Room (k + 1) X.A) (hx : Passes (L2.CX X.prog X.w) X E) (ha : DE T X E a fa) (hb' : DE T X E b fb) : DE T X E (.Compare a [.NotEq] [b] pos) (ownF (isC c) F notBl (two fa fb)) := by
  obtain ⟨r, h2, h3⟩ := neO_of (fa := fa) (fb := fb) FO hb h1 hr hx
  exact de_cmpO h2 h3 ha hb' (nomark _)
theorem dt_neO (FO : FnOk X.prog X.w X.K X.mg X.base (L2.CX X.prog X.w) k g fd ps (spF T 2 F)) (hb : Binds X.K fd ps []) (h1 : OwnNe X (T.cls c) g) (hr : Room (k + 1) X.A) (hx : Passes (L2.CX X.prog X.w) X E) (ha : DE T X E a fa) (hb' : DE T X E b fb) : DT T X E (.Compare a [.NotEq] [b] pos) (boolF (ownF (isC c) F notBl (two fa fb))) := by
  obtain ⟨r, h2, h3⟩ := neO_of (fa := fa) (fb := fb) FO hb h1 hr hx
  exact dt_cmpO h2 h3 ha hb' (nomark _)
/-- x + y, x * y by own defs -/
theorem de_binO {op : Operator} (FO : FnOk X.prog X.w X.K X.mg X.base (L2.CX X.prog X.w) k g fd ps (spF T 2 F)) (hb : Binds X.K fd ps []) (hc : PySem.W.selfFirst X.K (T.cls c) = true) (hs : PySem.W.findIn X.K (.ref (T.cls c)) (PySem.dunder op.info.2) = some (some (.ref g))) (hf : PySem.W.isFn X.K (.ref g) = true) (hr : Room (k + 1) X.A) (hx : Passes (L2.CX X.prog X.w) X E) (ha : DE T X E a fa) (hb' : DE T X E b fb) :
    DE T X E (.BinOp a op b pos) (ownF (isC c) F someD (two fa fb)) :=
  PE.of (pe_op (op_ownBin hc hs hf (fnR_of FO hb) (hr.mono (Nat.le_succ k)) hx) ha hb') (own2_of (Qp := fun Q => Q) (fun x y H Q ⟨a, dx, vs, b, dy, ws, e1, e2, h3, h4⟩ sp => ⟨a, dx, vs, b, dy, ws, e1, e2, h3, h4, sp⟩) fun Q d d' v I' H' e r q => by
      cases e
      exact q v r)
/-- ~x -/
theorem one_core {F : FnSem} {post : D → Option D} {Qp : VK → VK} {P : V → Hp → VK → Prop} (hr : ∀ x H Q, (∃ a dx vs, x = V.ref a ∧ SlX.Slt H a (T.cls c) dx vs) → spF T 1 F [x] H (Qp Q) E → P x H Q)
    (hpost : ∀ Q d d' v (I' H' : Hp), post d = some d' → Rep T I' d v → (∀ v', Rep T I' d' v' → Q v' H') → Qp Q v H') : ∀ σ H Q, tE T E (ownF (isC c) F post (consA fa nilA)) σ H Q → tE T E fa σ H fun x H1 => P x H1 Q := fun σ H Q ⟨M, A, I, δ, ok, w⟩ => by
  have w' : Wants T M E (fa δ >>= fun z => takeRs [z.1] z.2 >>= fun z => match z.1 with
      | d :: ds' => if isC c d && ds'.all (isC c) then (F ((d :: ds').map S.imm) >>= fun x => match x.1 with
          | .imm d' => ofO (post d') >>= fun d'' => pure (R.imm d'', z.2)
          | _ => .stuck) else .stuck
      | [] => .stuck) fun x => ∀ v I' H', Ok T M A I' σ H' x.2 → Stp A δ I H x.2 I' H' → RepR T I' σ x.1 v → Q v H' := by
    unfold ownF consA nilA at w
    cases h1 : fa δ with
    | stuck => rw [h1] at w; exact w.elim
    | exc x => rw [h1] at w; exact w
    | ok z => rw [h1] at w; exact w
  refine ⟨M, A, I, δ, ok, w'.bind.imp fun (r1, δ1) e1 w1 v1 I1 H1 ok1 st1 rr1 => ?_⟩
  refine own_core (n := 1) (Q := Q) (Qi := Qp Q) (vs := [v1]) (rs := [r1]) ok1 ⟨v1, _, rfl, rr1, rfl⟩ rfl w1 (hpost Q) (fun d'' δ3 v I' H' hk ok3 st3 rv => hk v I' H' ok3 (st1.trans st3) rv) fun I' ds sm rds hok sp => ?_
  obtain ⟨d1, rfl⟩ : ∃ d1, ds = [d1] := by
    have := rds.len
    match ds, this with
    | [d1], _ => exact ⟨d1, rfl⟩
  obtain ⟨v, w, e, k1, k2⟩ := rds.cons_inv
  cases e
  exact hr _ _ _ (rep_isC sm k1 (hok _ List.mem_cons_self)) sp
theorem de_invO (FO : FnOk X.prog X.w X.K X.mg X.base (L2.CX X.prog X.w) k g fd ps (spF T 1 F)) (hb : Binds X.K fd ps []) (hs : PySem.W.findIn X.K (.ref (T.cls c)) "__invert__" = some (some (.ref g))) (hf : PySem.W.isFn X.K (.ref g) = true) (hr : Room (k + 1) X.A) (hx : Passes (L2.CX X.prog X.w) X E) (ha : DE T X E a fa) :
    DE T X E (.UnaryOp .Invert a pos) (ownF (isC c) F someD (consA fa nilA)) :=
  PE.of (pe_un (un_ownInv hs hf (fnR_of FO hb) (hr.mono (Nat.le_succ k)) hx) ha) (one_core (P := rOwnInv (T.cls c) (spF T 1 F) E) (Qp := fun Q => Q) (fun x H Q ⟨a, dx, vs, e1, h3⟩ sp => ⟨a, dx, vs, e1, h3, by rw [← e1]; exact sp⟩) fun Q d d' v I' H' e r q => by
      cases e
      exact q v r)
/-- len(x) -/
theorem de_lenO (FO : FnOk X.prog X.w X.K X.mg X.base (L2.CX X.prog X.w) k g fd ps (spF T 1 F)) (hb : Binds X.K fd ps []) (hs : PySem.W.findIn X.K (.ref (T.cls c)) "__len__" = some (some (.ref g))) (hf : PySem.W.isFn X.K (.ref g) = true) (hr : Room (k + 1) X.A) (hx : Passes (L2.CX X.prog X.w) X E) (hm : X.mg "len" = none) (ha : DE T X E a fa)
    (hg : Gl X "len" := by rfl) (he : starEach [a] X.env = (false, eval a X.env) :: starEach [] X.env := by rfl) : DE T X E (.Call (.Name "len" p) [a] [] pos) (ownF (isC c) F smallNat (consA fa nilA)) :=
  PE.of (pe_callB (call_ownLen hs hf (fnR_of FO hb) hr hx) hg hm (by first | rfl | decide +kernel) (pa_cons ha pa_nil he) (by decide) (by decide) he (by rfl)) (one_core (P := fun x H1 Q => rOwnLen (T.cls c) (spF T 1 F) E [x] H1 Q) (Qp := fun Q z H' => ∃ i : Int, z = .int i ∧ (0 ≤ i ∧ i < 2 ^ 63) ∧ Q (.int i) H') (fun x H Q ⟨a, dx, vs, e1, h3⟩ sp => ⟨a, dx, vs, by rw [e1], h3, by rw [← e1]; exact sp⟩) fun Q d d' v I' H' e r q => by
      cases d with
      | int i =>
        simp only [smallNat] at e
        split at e
        · rename_i hi
          cases e
          exact ⟨i, r.int_inv, hi, q _ .ofint⟩
        · cases e
      | _ => cases e)
end
end DE
set_option Elab.async false
set_option linter.all false
set_option maxRecDepth 100000
set_option maxHeartbeats 2000000
namespace DE
open PySem PySem.Spec PyProof.Rows L2

section
variable {T : Ctx} {X : Cx} {E : XK} {o e a b tg : Expr} {es : List Expr} {fo fa fb fe : FE} {fs : FA} {p pos apos cpos : Pos} {f m : Str}
variable {k n c : Nat} {g : Addr} {fd : FuncData} {ps : List Str} {F : FnSem}
/-! ### v in x by an own __contains__ (the row: x, v) -/
def ownInF (c : Nat) (F : FnSem) (neg : Bool) (fa fb : FE) : FE := fun δ => do
  let (r1, δ1) ← fa δ
  let (r2, δ2) ← fb δ1
  let (d2, δ3) ← takeR r2 δ2
  let (d1, δ4) ← takeR r1 δ3
  if isC c d2 then (F [.imm d2, .imm d1] >>= fun x => match x.1 with
    | .imm (.bl k) => pure (.imm (.bl (k != neg)), δ4)
    | _ => .stuck) else .stuck
theorem ownIn_of {neg : Bool} {fa fb : FE} : ∀ σ H Q, tE T E (ownInF c F neg fa fb) σ H Q → tOp (rOwnIn (T.cls c) neg (spF T 2 F) E) (tE T E fa) (tE T E fb) σ H Q := fun σ H Q ⟨M, A, I, δ, ok, w⟩ => by
  refine ⟨M, A, I, δ, ok, w.bind.imp fun (r1, δ1) e1 w1 v1 I1 H1 ok1 st1 rr1 => ?_⟩
  refine ⟨M, A, I1, δ1, ok1, w1.bind.imp fun (r2, δ2) e2 w2 v2 I2 H2 ok2 st2 rr2 => ?_⟩
  replace w2 : Wants T M E (takeR r2 δ2 >>= fun y => takeR r1 y.2 >>= fun z => if isC c y.1 then (F [.imm y.1, .imm z.1] >>= fun x => match x.1 with
    | .imm (.bl k) => pure (R.imm (.bl (k != neg)), z.2)
    | _ => .stuck) else .stuck) _ := w2
  cases q : takeR r2 δ2 with
  | stuck => rw [q] at w2; exact w2.elim
  | exc x => exact (takeR_exc q).elim
  | ok y =>
    obtain ⟨d2, δ3⟩ := y
    rw [q, ok_bind] at w2
    obtain ⟨I3, ok3, st3, rd2⟩ := ok2.hand rr2 q
    cases q' : takeR r1 δ3 with
    | stuck => simp only [q'] at w2; exact w2.elim
    | exc x => exact (takeR_exc q').elim
    | ok z =>
      obtain ⟨d1, δ4⟩ := z
      simp only [q', ok_bind] at w2
      obtain ⟨I4, ok4, st4, rd1⟩ := ok3.hand ((rr1.mono st2.gro).mono st3.gro) q'
      split at w2
      · rename_i hc
        have rd2' := rd2.mono st4.gro
        obtain ⟨a, dx, vs, rfl, hs⟩ := rep_isC ok4.sub rd2' hc
        refine ⟨a, dx, vs, rfl, hs, ?_⟩
        have st := ((st1.trans st2).trans st3).trans st4
        refine sp_imm (ds := [d2, d1]) ok4 (.cons rd2' (.cons rd1 .nil)) rfl w2.bind fun s p wk v A' I' H' σ' δ' nw ok' ro => ?_
        cases s with
        | imm d' =>
          cases d' with
          | bl k => exact ⟨k, (show Rep T I' (.bl k) v from ro).bl_inv, wk _ I' H' (ok4.new nw) (st.trans nw.stp) (show Rep T I' (.bl _) _ from .ofbl)⟩
          | _ => exact wk.elim
        | _ => exact wk.elim
      · exact w2.elim
abbrev OwnIn (X : Cx) (C : Addr) (g : Addr) : Prop := PySem.W.findIn X.K (.ref C) "__contains__" = some (some (.ref g)) ∧ PySem.W.isFn X.K (.ref g) = true
theorem de_inO (FO : FnOk X.prog X.w X.K X.mg X.base (L2.CX X.prog X.w) k g fd ps (spF T 2 F)) (hb : Binds X.K fd ps []) (h1 : OwnIn X (T.cls c) g) (hr : Room k X.A) (hx : Passes (L2.CX X.prog X.w) X E) (ha : DE T X E a fa) (hb' : DE T X E b fb) (hm : behindInMarks .In b = false := by rfl) : DE T X E (.Compare a [.In] [b] pos) (ownInF c F false fa fb) :=
  de_cmpO (op_ownIn h1.1 h1.2 (fnR_of FO hb) hr hx) ownIn_of ha hb' hm
theorem dt_inO (FO : FnOk X.prog X.w X.K X.mg X.base (L2.CX X.prog X.w) k g fd ps (spF T 2 F)) (hb : Binds X.K fd ps []) (h1 : OwnIn X (T.cls c) g) (hr : Room k X.A) (hx : Passes (L2.CX X.prog X.w) X E) (ha : DE T X E a fa) (hb' : DE T X E b fb) (hm : behindInMarks .In b = false := by rfl) : DT T X E (.Compare a [.In] [b] pos) (boolF (ownInF c F false fa fb)) :=
  dt_cmpO (op_ownIn h1.1 h1.2 (fnR_of FO hb) hr hx) ownIn_of ha hb' hm
theorem de_notinO (FO : FnOk X.prog X.w X.K X.mg X.base (L2.CX X.prog X.w) k g fd ps (spF T 2 F)) (hb : Binds X.K fd ps []) (h1 : OwnIn X (T.cls c) g) (hr : Room k X.A) (hx : Passes (L2.CX X.prog X.w) X E) (ha : DE T X E a fa) (hb' : DE T X E b fb) (hm : behindInMarks .NotIn b = false := by rfl) : DE T X E (.Compare a [.NotIn] [b] pos) (ownInF c F true fa fb) :=
  de_cmpO (op_ownNotIn h1.1 h1.2 (fnR_of FO hb) hr hx) ownIn_of ha hb' hm
theorem dt_notinO (FO : FnOk X.prog X.w X.K X.mg X.base (L2.CX X.prog X.w) k g fd ps (spF T 2 F)) (hb : Binds X.K fd ps []) (h1 : OwnIn X (T.cls c) g) (hr : Room k X.A) (hx : Passes (L2.CX X.prog X.w) X E) (ha : DE T X E a fa) (hb' : DE T X E b fb) (hm : behindInMarks .NotIn b = false := by rfl) : DT T X E (.Compare a [.NotIn] [b] pos) (boolF (ownInF c F true fa fb)) :=
  dt_cmpO (op_ownNotIn h1.1 h1.2 (fnR_of FO hb) hr hx) ownIn_of ha hb' hm

/-! ### a property -/
theorem de_prop {dp : Addr} (FO : FnOk X.prog X.w X.K X.mg X.base (L2.CX X.prog X.w) k g fd ps (spF T 1 F)) (hb : Binds X.K fd ps []) (ho : DE T X E o fo) (c1 : SlX.SCls X.K (T.cls c)) (at_ : PySem.W.findIn X.K (.ref (T.cls c)) f = some (some (.ref dp))) (get : PySem.W.specialIn X.K (.ref dp) "__get__" = some (some (.builtin "property.__get__")))
    (tk : PySem.W.takesIn X.K (.ref dp) = some true) (rc : ∃ rest, PySem.W.recIn X.K dp "property" = some (.ref g :: rest)) (hr : Room (k + 1) X.A) (hx : ∀ (H : Hp) (s : Shared) (e : Value) (s' : Shared), L2.CX X.prog X.w X.stack H s (fun _ _ _ => False) e s' → False)
    (hbase : attributeBase o f X.env (eval o X.env) = eval o X.env := by rfl) : DE T X E (.Attribute o f pos) (propF c F fo) :=
  PE.of (SlX.pe_propSl ho c1 at_ get tk rc (fnR_of FO hb) hr hx hbase) fun σ H Q ⟨M, A, I, δ, ok, w⟩ => ⟨M, A, I, δ, ok, w.bind.imp fun (r0, δ1) e1 w1 v0 I1 H1 ok1 st1 rr1 => by
    replace w1 : Wants T M E (takeR r0 δ1 >>= fun z => match z.1 with
      | .obj c' gs => if c' = c then (nilA z.2 >>= fun y => takeRs y.1 y.2 >>= fun u => noX (F ((D.obj c' gs :: u.1 ++ []).map S.imm)) >>= fun x => match x.1 with
        | .imm d' => pure (R.imm d', u.2)
        | _ => .stuck) else .stuck
      | _ => .stuck) _ := w1
    cases q : takeR r0 δ1 with
    | stuck => rw [q] at w1; exact w1.elim
    | exc x => exact (takeR_exc q).elim
    | ok z =>
      obtain ⟨d, δ2⟩ := z
      rw [q, ok_bind] at w1
      obtain ⟨I2, ok2, st2, rd⟩ := ok1.hand rr1 q
      cases d with
      | obj c' gs =>
        simp only at w1
        split at w1
        · rename_i hcc
          subst hcc
          obtain ⟨a, dx, ws, rfl, hsl, rsl⟩ := (show Red T I2 H1 (.obj c' gs) v0 from .inl rd).obj_inv ok2.sub
          refine ⟨a, dx, ws, rfl, hsl, ?_⟩
          replace w1 : Wants T M E (noX (F ([D.obj c' gs].map S.imm)) >>= fun x => match x.1 with
            | .imm d' => pure (R.imm d', δ2)
            | _ => .stuck) _ := w1
          refine sp_imm (E := fun _ _ _ => False) ok2 (.one rd) rfl (Wants.noX w1) fun s p wk v A' I' H' σ' δ' nw ok' ro => ?_
          cases s with
          | imm d' => exact wk v I' H' (ok2.new nw) ((st1.trans st2).trans nw.stp) ro
          | _ => exact wk.elim
        · exact w1.elim
      | _ => exact w1.elim⟩

/-! ### C(..) -/
def makeF (c : Nat) (F : FnSem) (dds : List D) (fa : FA) : FE := fun δ => do
  let (rs, δ1) ← fa δ
  let (ds, δ2) ← takeRs rs δ1
  F (.par (.obj c []) :: (ds ++ dds).map S.imm) >>= fun x => match x.1, x.2 with
    | .imm .non, some (.obj c' fs) => if c' = c then pure (.imm (.obj c fs), δ2) else .stuck
    | _, _ => .stuck
theorem tMake_of {m' : Nat} {dds : List D} {dvs : List V} {ta : TA} (ht : ∀ σ H Q, tA T E fs σ H Q → ta σ H Q) (hl : LenA fs m') (hd : ∀ I, Reps T I dds dvs) (hn : 1 + m' + dds.length = n) : ∀ σ H Q, tE T E (makeF c F dds fs) σ H Q → tMake (T.cls c) (spF T n F) dvs E ta σ H Q := fun σ H Q ⟨M, A, I, δ, ok, w⟩ => by
  refine ht _ _ _ ⟨M, A, I, δ, ok, w.bind.imp fun (rs, δ1) e1 w1 vs I1 H1 ok1 st1 rr1 => ?_⟩
  intro x dx hx hdx hne
  replace w1 : Wants T M E (takeRs rs δ1 >>= fun z => F (.par (.obj c []) :: (z.1 ++ dds).map S.imm) >>= fun x => match x.1, x.2 with
    | .imm .non, some (.obj c' fs) => if c' = c then pure (R.imm (.obj c fs), z.2) else .stuck
    | _, _ => .stuck) _ := w1
  cases q : takeRs rs δ1 with
  | stuck => rw [q] at w1; exact w1.elim
  | exc x => exact (takeRs_exc q).elim
  | ok z =>
    obtain ⟨ds, δ2⟩ := z
    rw [q, ok_bind] at w1
    obtain ⟨I2, ok2, st2, rds⟩ := ok1.hands rr1 q
    have all := rds.append (hd I2)
    have st := st1.trans st2
    let H3 : Hp := upd (upd H1 dx (.own x)) x (.ins (T.cls c) dx [])
    have hold : ∀ b u, H1 b = some u → H3 b = some u := fun b u h => by
      show upd (upd H1 dx (.own x)) x (.ins (T.cls c) dx []) b = _
      rw [upd_ne (ne_of_none h hx), upd_ne (ne_of_none h hdx)]
      exact h
    have hp1 : H3 x = some (.ins (T.cls c) dx []) := upd_same
    have hp2 : H3 dx = some (.own x) := by
      show upd (upd H1 dx (.own x)) x (.ins (T.cls c) dx []) dx = _
      rw [upd_ne hne, upd_same]
    have sub3 : Same I2 H3 := fun b u h => hold b u (ok2.sub _ _ h)
    have nI : ∀ b, (b = x ∨ b = dx) → I2 b = none := fun b hb => by
      rcases hb with rfl | rfl
      · exact ok2.sub.free hx
      · exact ok2.sub.free hdx
    have hg : ∀ (i : Nat) (t : S), ((S.par (.obj c []) :: (ds ++ dds).map S.imm).map some)[i]? = some (some t) → (i = 0 ∧ t = .par (.obj c [])) ∨ ∃ i' d, i = i' + 1 ∧ (ds ++ dds)[i']? = some d ∧ t = .imm d := fun i t e => by
      cases i with
      | zero => exact .inl ⟨rfl, (Option.some.inj (Option.some.inj e)).symm⟩
      | succ i' =>
        simp only [List.map_cons, List.map_map, List.getElem?_cons_succ, List.getElem?_map, Option.map_eq_some_iff] at e
        obtain ⟨d, h1, h2⟩ := e
        exact .inr ⟨i', d, rfl, h1, (Option.some.inj h2).symm⟩
    have okc : Ok T ⟨H3, I2, [(0, (x, dx))], []⟩ (fun _ => (x, dx)) I2 ((V.ref x :: (vs ++ dvs)).map some) H3 ((S.par (.obj c []) :: (ds ++ dds).map S.imm).map some) := by
      refine ⟨sub3, .refl _, fun _ _ h => .inl h, fun _ _ h _ => h, by simp [all.len, rds.len, (hd I2).len], fun i t e => ?_, fun a b c' h1 h2 _ _ => ?_, fun q hq => ?_, fun q hq => (by cases hq)⟩
      · rcases hg i t e with ⟨rfl, rfl⟩ | ⟨i', d, rfl, h1, rfl⟩
        · exact ⟨rfl, ⟨hne, ⟨_, hp2⟩, [], .inl ⟨hp1, rfl⟩, by simp [RepSl]⟩, nI, by simp⟩
        · obtain ⟨u, h2, h3⟩ := all.get h1
          exact ⟨u, by simp only [List.map_cons, List.getElem?_cons_succ, List.getElem?_map, h2]; rfl, h3⟩
      · obtain ⟨t1, e1, m1⟩ := h1
        obtain ⟨t2, e2, m2⟩ := h2
        rcases hg _ _ e1 with ⟨rfl, _⟩ | ⟨_, _, _, _, rfl⟩
        · rcases hg _ _ e2 with ⟨rfl, _⟩ | ⟨_, _, _, _, rfl⟩
          · rfl
          · cases m2
        · cases m1
      · have hq : q = (0, (x, dx)) := by simpa using hq
        subst hq
        exact ⟨⟨_, rfl⟩, rfl⟩
    refine ⟨I2, S.par (.obj c []) :: (ds ++ dds).map S.imm, fun _ => (x, dx), ?_, by simp [goodArgs, S.isImm], okc, ?_⟩
    · have h1 := takeRs_len q
      have h2 := hl _ _ _ e1
      simp only [List.length_cons, List.length_append, rds.len, (hd I2).len]
      omega
    · show Wants T ⟨H3, I2, [(0, (x, dx))], []⟩ E (F (S.par (.obj c []) :: (ds ++ dds).map S.imm)) _
      have wb := w1.bind
      cases qF : F (S.par (.obj c []) :: (ds ++ dds).map S.imm) with
      | stuck => rw [qF] at wb; exact wb.elim
      | exc y =>
        rw [qF] at wb
        intro cls dxx H' hX
        refine wb cls dxx H' ?_
        obtain ⟨I', h1, h2, h3, h4, h5⟩ := hX
        refine ⟨I', ok2.gro.trans h1, fun b u e => ?_, h3, fun b u e hn => ?_, h5⟩
        · rcases h2 b u e with z | z
          · exact ok2.fre b u z
          · have z' : H1 b = none := by
              cases qb : H1 b with
              | none => rfl
              | some u' =>
                have z2 : H3 b = none := z
                rw [hold b u' qb] at z2
                cases z2
            exact .inr ((ok2.fresh (p := (b, b)) z' z').h b (.inl rfl))
        · have e1 := ok2.kee b u e hn
          refine h4 b u (hold b u e1) fun p hp => ?_
          have hp : p = (0, (x, dx)) := by simpa using hp
          subst hp
          refine ⟨fun z => ?_, fun z => ?_⟩
          · rw [z, hx] at e1
            cases e1
          · rw [z, hdx] at e1
            cases e1
      | ok a =>
        rw [qF] at wb
        obtain ⟨zz, p⟩ := a
        intro v' A' I' σ' H' δ' ok' hp rr
        replace ok' : Ok T ⟨H3, I2, [(0, (x, dx))], []⟩ A' I' σ' H' δ' := ok'
        obtain ⟨⟨d', e'⟩, ea⟩ := ok'.prs (0, (x, dx)) (by simp)
        obtain ⟨_, ow', on', _⟩ := ok'.sl 0 _ e'
        have ea : A' 0 = (x, dx) := ea
        have hp' : p = some d' := by
          cases δ' with
          | nil => cases e'
          | cons x0 xr =>
            have : x0 = some (.par d') := by simpa using e'
            subst this
            have hp : parD (S.par (.obj c []) :: (ds ++ dds).map S.imm) (some (S.par d') :: xr) = .ok p := hp
            simp only [parD] at hp
            injection hp with hp
            exact hp.symm
        subst hp'
        replace wb : Wants T M E (match zz, some d' with
          | .imm .non, some (.obj c' fs) => if c' = c then pure (R.imm (.obj c fs), δ2) else .stuck
          | _, _ => .stuck) _ := wb
        split at wb
        · rename_i c' gs hd'
          split at wb
          · rename_i hcc
            subst hcc
            have hd2 : d' = .obj c' gs := by injection hd'
            subst hd2
            refine ⟨(show Rep T I' .non v' from rr).non_inv, ?_⟩
            rw [ea] at ow'
            -- the state behind: our slots, the new object apart
            have kee : ∀ b u, H1 b = some u → H' b = some u := fun b u e => ok'.kee b u (hold b u e) fun q hq => by
              have hq : q = (0, (x, dx)) := by simpa using hq
              subst hq
              refine ⟨fun z => ?_, fun z => ?_⟩
              · rw [z, hx] at e
                cases e
              · rw [z, hdx] at e
                cases e
            have nw : New I2 H1 I' H' := ⟨ok'.gro, ok'.sub, kee, fun b u e => by
              rcases ok'.fre b u e with z | z
              · exact .inl z
              · refine .inr ?_
                cases qb : H1 b with
                | none => rfl
                | some u' =>
                  have z2 : H3 b = none := z
                  rw [hold b u' qb] at z2
                  cases z2⟩
            have ok3 := ok2.new nw
            have ap : Apart M A δ2 I' (x, dx) := by
              have fr := ok2.fresh (p := (x, dx)) hx hdx
              exact ⟨fun b hb => on' b (by rw [fpt, ea]; exact hb), fr.h, fr.s, fr.x⟩
            obtain ⟨I4, ok4, sm, fr4, rv⟩ := ok3.freezeAt ow' ap rfl
            refine wb _ I4 H' ok4 ⟨(st.trans nw.stp).gro.trans sm, fun b u h => ?_, (st.trans nw.stp).kee, (st.trans nw.stp).mon, (st.trans nw.stp).dom⟩ rv
            rcases fr4 b u h with h | h | h
            · exact (st.trans nw.stp).fre b u h
            · exact .inr (.inl (by rw [h]; exact st.back hx))
            · exact .inr (.inl (by rw [h]; exact st.back hdx))
          · exact wb.elim
        · exact wb.elim
theorem de_make {m' : Nat} {x : Str} {dds : List D} {dvs : List V} {dus : List Value} (FO : FnOk X.prog X.w X.K X.mg X.base (L2.CX X.prog X.w) k g fd ps (spF T n F)) (M : Mk X.K (T.cls c) g) (hr : Room (k + 1) X.A) (hm : X.mg x = some (.ref (T.cls c))) (hb : Binds X.K fd ps dus) (hd : Vals dvs dus) (hdd : ∀ I, Reps T I dds dvs) (hx : Passes (L2.CX X.prog X.w) X E)
    (ha : DA T X E (e :: es) fs) (hl : LenA fs m') (hn : 1 + m' + dds.length = n := by rfl) (hg : Gl X x := by rfl) (hdb : (x == ("__debug__" : Str)) = false := by decide) (he : starEach (e :: es) X.env = (false, eval e X.env) :: starEach es X.env := by rfl) (hpl : (backTo pos (starEach es X.env)).any (·.1) = false := by rfl) :
    DE T X E (.Call (.Name x p) (e :: es) [] pos) (makeF c F dds fs) :=
  PE.of (pe_make M FO hr hg hm hb hd hx ha hdb he hpl) (tMake_of (fun _ _ _ z => z) hl hdd hn)
theorem de_make0 {x : Str} {dds : List D} {dvs : List V} {dus : List Value} (FO : FnOk X.prog X.w X.K X.mg X.base (L2.CX X.prog X.w) k g fd ps (spF T n F)) (M : Mk X.K (T.cls c) g) (hr : Room (k + 1) X.A) (hm : X.mg x = some (.ref (T.cls c))) (hb : Binds X.K fd ps dus) (hd : Vals dvs dus) (hdd : ∀ I, Reps T I dds dvs) (hx : Passes (L2.CX X.prog X.w) X E)
    (hn : 1 + 0 + dds.length = n := by rfl) (hg : Gl X x := by rfl) (hdb : (x == ("__debug__" : Str)) = false := by decide) : DE T X E (.Call (.Name x p) [] [] pos) (makeF c F dds nilA) :=
  PE.of (pe_make0 M FO hr hg hm hb hd hx hdb) (tMake_of tNil_of lenA_nil hdd hn)

/-! ### a, b = e: a tuple taken apart -/
def asgT (t : Tg) (f : FE) : FS := fun δ => do
  let (r, δ1) ← f δ
  let (d, δ2) ← takeR r δ1
  let δ3 ← setTg t d δ2
  pure (.nx, δ3)
theorem ds_asgT {t : Tg} {f : FE} (he : DE T X E e f) (hg : DG T X tg t) (hs : swapsWithSole [tg] e pos.line X.env = pure false := by rfl) (hw : swappedStores [tg] e X.env = pure none := by rfl) (h1 : (assignEach [tg] X.env).map (·.2) = [assign tg X.env] := by rfl) : DS T X E (.Assign [tg] e pos) (asgT t f) :=
  PS.of (ps_asg he hg hs hw h1) fun D σ H ⟨M, A, I, δ, ok, w⟩ => ⟨M, A, I, δ, ok, w.bind.imp fun (r, δ1) e1 w1 v I1 H1 ok1 st1 r1 => by
    replace w1 : Wants T M E (takeR r δ1 >>= fun z => setTg t z.1 z.2 >>= fun δ3 => pure (Fl.nx, δ3)) _ := w1
    cases q : takeR r δ1 with
    | stuck => rw [q] at w1; exact w1.elim
    | exc x => exact (takeR_exc q).elim
    | ok z =>
      obtain ⟨d, δ2⟩ := z
      rw [q, ok_bind] at w1
      obtain ⟨I2, ok2, st2, rd⟩ := ok1.hand r1 q
      cases q3 : setTg t d δ2 with
      | stuck => simp only [q3] at w1; exact w1.elim
      | exc x => exact (setTg_exc q3).elim
      | ok δ3 =>
        simp only [q3, ok_bind] at w1
        exact ⟨M, A, I2, δ2, d, δ3, ok2, rd, q3, fun σ' ok' _ _ _ => w1 A I2 σ' H1 ok'⟩⟩
end
end DE
set_option Elab.async false
set_option linter.all false
set_option maxRecDepth 100000
set_option maxHeartbeats 2000000
namespace DE
open PySem PySem.Spec PyProof.Rows L2

/-! ### dict comprehensions -/
def dkKeys (ks : List DK) (k : DK) : List DK := if k ∈ ks then ks else ks ++ [k]
def dkVals (ks : List DK) (vs : List D) (k : DK) (d : D) : List D := if k ∈ ks then List.zipWith (fun k' v => if k' = k then d else v) ks vs else vs ++ [d]
def RepDk (T : Ctx) (I : Hp) (ks : List DK) (ds : List D) (kvs : List (Key × V)) : Prop := kvs.map (·.1) = ks.map kk ∧ Reps T I ds (kvs.map (·.2))
theorem RepDk.put {T : Ctx} {I : Hp} {ks : List DK} {ds : List D} {kvs : List (Key × V)} {k : DK} {d : D} {v : V} (h : RepDk T I ks ds kvs) (r : Rep T I d v) : RepDk T I (dkKeys ks k) (dkVals ks ds k d) (putK kvs (kk k) v) := by
  obtain ⟨h1, h2⟩ := h
  have hany : (kvs.any fun kv => decide (kv.1 = kk k)) = decide (k ∈ ks) := by
    rw [Bool.eq_iff_iff, List.any_eq_true, decide_eq_true_eq]
    constructor
    · rintro ⟨kv, hm, he⟩
      have he : kv.1 = kk k := by simpa using he
      have : kk k ∈ ks.map kk := by
        rw [← h1, ← he]
        exact List.mem_map_of_mem hm
      obtain ⟨k', hk', e⟩ := List.mem_map.mp this
      rw [← kk_inj.mp e]
      exact hk'
    · intro hm
      have : kk k ∈ kvs.map (·.1) := by
        rw [h1]
        exact List.mem_map_of_mem hm
      obtain ⟨kv, hkv, e⟩ := List.mem_map.mp this
      exact ⟨kv, hkv, by simpa using e⟩
  unfold putK dkKeys dkVals
  rw [hany]
  by_cases hk : k ∈ ks
  · simp only [hk, decide_true, if_true]
    clear hany hk
    induction kvs generalizing ks ds with
    | nil =>
      cases ks with
      | nil => cases ds with
        | nil => exact ⟨rfl, h2⟩
        | cons _ _ => exact absurd h2.len (by simp)
      | cons _ _ => cases h1
    | cons kv kvs ih =>
      cases ks with
      | nil => cases h1
      | cons k' ks =>
        cases ds with
        | nil => exact absurd h2.len (by simp)
        | cons d' ds =>
          simp only [List.map_cons, List.cons.injEq] at h1
          obtain ⟨v', vr, e, r1, r2⟩ := h2.cons_inv
          simp only [List.map_cons, List.cons.injEq] at e
          obtain ⟨rfl, rfl⟩ := e
          obtain ⟨i1, i2⟩ := ih h1.2 r2
          by_cases e : k' = k
          · subst e
            rw [List.map_cons, if_pos h1.1]
            refine ⟨?_, ?_⟩
            · simp only [List.map_cons, h1.1, i1]
            · simp only [List.map_cons, List.zipWith_cons_cons, if_pos]
              exact .cons r i2
          · have e' : ¬ kv.1 = kk k := fun z => e (kk_inj.mp (h1.1.symm.trans z))
            rw [List.map_cons, if_neg e']
            refine ⟨?_, ?_⟩
            · simp only [List.map_cons, h1.1, i1]
            · simp only [List.map_cons, List.zipWith_cons_cons, if_neg e]
              exact .cons r1 i2
  · simp only [hk, decide_false, if_false, Bool.false_eq_true]
    refine ⟨?_, ?_⟩
    · simp only [List.map_append, List.map_cons, List.map_nil, h1]
    · simp only [List.map_append, List.map_cons, List.map_nil]
      exact h2.append (.one r)
theorem RepDk.mono {T : Ctx} {I I' : Hp} {ks : List DK} {ds : List D} {kvs : List (Key × V)} (h : RepDk T I ks ds kvs) (s : Same I I') : RepDk T I' ks ds kvs := ⟨h.1, h.2.mono s⟩
theorem dkKeys_len (ks : List DK) (k : DK) : (dkKeys ks k).length ≤ ks.length + 1 := by
  unfold dkKeys
  split
  · omega
  · simp
def keyR : R → Option DK
  | .imm (.int i) => some (.i i)
  | .imm (.str x) => some (.s x)
  | _ => none
theorem keyR_rep {T : Ctx} {I : Hp} {σ : L2.St} {r : R} {v : V} {k : DK} (h : RepR T I σ r v) (e : keyR r = some k) : v = kV (kk k) := by
  cases r with
  | slot i => cases e
  | imm d =>
    cases d with
    | int i => cases e; exact h.get.int_inv
    | str i => cases e; exact h.get.str_inv
    | _ => cases e
def dcL (t : Tg) (c : FT) (fk fv : FE) (vs : List Nat) : List D → List DK → List D → Dl → Out ((List DK × List D) × Dl)
  | [], ks, ws, δ => .ok ((ks, ws), δ)
  | d :: ds, ks, ws, δ => do
    let δ1 ← setTg t d δ
    let (k, δ2) ← noX (c δ1)
    if k then do
      let (rk, δ3) ← noX (fk δ2)
      let key ← ofO (keyR rk)
      let (r, δ4) ← noX (fv δ3)
      let (e, δ5) ← takeR r δ4
      let δ6 ← wipeD vs δ5
      dcL t c fk fv vs ds (dkKeys ks key) (dkVals ks ws key e) δ6
    else do
      let δ5 ← wipeD vs δ2
      dcL t c fk fv vs ds ks ws δ5
def dcF (gi : FI) (t : Tg) (c : FT) (fk fv : FE) (vs : List Nat) : FN := fun δ => do
  let (is, δ1) ← gi δ
  if lim is.1.length then do
    let δ2 ← lockD is.2 δ1
    let δ3 ← wipeD vs δ2
    let (z, δ4) ← dcL t c fk fv vs is.1 [] [] δ3
    pure (.dk z.1 z.2, backD δ1 vs (unlockD is.2 δ4))
  else .stuck
section
variable {T : Ctx} {E : XK} {gi : FI} {t : Tg} {c : FT} {fk fv : FE} {vs : List Nat}
theorem tDc_of (hv : ∀ i ∈ t.ix, i ∈ vs) : ∀ (σ : L2.St) (H : Hp) (Q : VK), tN T E (dcF gi t c fk fv vs) σ H Q → tDc (tI T E gi) (tG T t) (tT T E0' c) (tE T E0' fk) (tE T E0' fv) vs σ H Q := fun σ H Q ⟨M, A, I, δ, ok, w⟩ => by
  refine ⟨M, A, I, δ, ok, w.bind.imp fun (is, δ1) e1 w1 J I1 H1 ok1 st1 so wk => ?_⟩
  obtain ⟨items, src⟩ := is
  intro Da hD
  have w1 : Wants T M E (if lim items.length then (lockD src δ1 >>= fun δ2 => wipeD vs δ2 >>= fun δ3 => dcL t c fk fv vs items [] [] δ3 >>= fun z => pure (D.dk z.1.1 z.1.2, backD δ1 vs (unlockD src z.2))) else Out.stuck) (postN T M A δ I H σ Q) := w1
  split at w1
  case isFalse => exact w1.elim
  case isTrue hlim =>
    cases q : lockD src δ1 with
    | stuck => rw [q] at w1; exact w1.elim
    | exc x => exact (lockD_exc q).elim
    | ok δ2 =>
      rw [q, ok_bind] at w1
      cases q2 : wipeD vs δ2 with
      | stuck => rw [q2] at w1; exact w1.elim
      | exc x => exact (wipeD_exc q2).elim
      | ok δ3 =>
        rw [q2, ok_bind] at w1
        obtain ⟨okl, ml⟩ := ok1.lock so q
        have okw := okl.wipe q2
        have mw := (wipeD_in q2).2
        have m31 : ∀ i, mutAt δ3 i → mutAt δ1 i := fun i hi => (ml i).mp (mw i hi)
        have apD : Apart M A δ1 I1 (Da, Da) := ok1.fresh hD hD
        have apL : Apart (DE.lockM M I1 H1 A items src) A δ3 I1 (Da, Da) := apD.lockM m31
        have stI : StpD Da A δ1 I1 H1 δ1 I1 (upd H1 Da (.dK [])) := ⟨.refl _, fun b o e => .inl e, fun b o n e _ => by rw [upd_ne n]; exact e, fun _ h => h, fun b o e => ⟨o, by rw [upd_ne (ne_of_none e hD)]; exact e⟩⟩
        let KK : (List DK × List D) × Dl → Prop := fun z => Wants T M E (pure (D.dk z.1.1 z.1.2, backD δ1 vs (unlockD src z.2))) (postN T M A δ I H σ Q)
        refine ⟨fun i m H' => m = items.length - i ∧ i ≤ items.length ∧ ∃ I' δ' ks ws kvs, Ok T (DE.lockM M I1 H1 A items src) A I' (wipe σ vs) H' δ' ∧ Apart (DE.lockM M I1 H1 A items src) A δ' I' (Da, Da) ∧ H' Da = some (.dK kvs) ∧ RepDk T I' ks ws kvs ∧ ks.length ≤ i ∧
            (∀ (v : Nat), v ∈ vs → ∀ s, δ'[v]? ≠ some (some s)) ∧ StpD Da A δ1 I1 H1 δ' I' H' ∧ Wants T M E (dcL t c fk fv vs (items.drop i) ks ws δ') KK,
          ⟨_, rfl, Nat.zero_le _, I1, δ3, [], [], [], okw.tmp apL, apL, upd_same, ⟨rfl, .nil⟩, Nat.le_refl _, (wipeD_in q2).1, stI.mono m31, w1.bind⟩, ?_⟩
        rintro i m H' ⟨rfl, hi, I', δ', ks, ws, kvs, ok', ap', hD', ra, la, hno, stp', w'⟩
        by_cases hlt : i < items.length
        · have hd : items[i]? = some items[i] := List.getElem?_eq_getElem hlt
          rw [List.drop_eq_getElem_cons hlt, dcL] at w'
          refine .inr ⟨wk.goes i I' H' hlt ok'.sub (ok1.walked so q ok'), fun H3 => ∃ I' δ' ks ws kvs, Ok T (DE.lockM M I1 H1 A items src) A I' (wipe σ vs) H3 δ' ∧ Apart (DE.lockM M I1 H1 A items src) A δ' I' (Da, Da) ∧ H3 Da = some (.dK kvs) ∧ RepDk T I' ks ws kvs ∧ ks.length ≤ i + 1 ∧
            (∀ (v : Nat), v ∈ vs → ∀ s, δ'[v]? ≠ some (some s)) ∧ StpD Da A δ1 I1 H1 δ' I' H3 ∧ Wants T M E (dcL t c fk fv vs (items.drop (i + 1)) ks ws δ') KK, fun H3 h3 => ⟨items.length - (i + 1), by omega, rfl, by omega, h3⟩, fun x H2 hy => ?_⟩
          obtain ⟨I2, nw, rx⟩ := wk.yields i I' H' x H2 _ hd ok'.sub (ok1.walked so q ok') hy
          have ok2 := ok'.new nw
          obtain ⟨ap2, hD2⟩ := ap'.step hD' (nw.stp (δ := δ'))
          have ra2 := ra.mono nw.gro
          cases q1 : setTg t items[i] δ' with
          | stuck => rw [q1] at w'; exact w'.elim
          | exc x => exact (setTg_exc q1).elim
          | ok δ4 =>
            rw [q1, ok_bind] at w'
            refine ⟨_, A, I2, δ', items[i], δ4, ok2, rx, q1, fun σ4 ok4 l4 k4 m4 => ?_⟩
            have hw4 : wipe σ4 vs = wipe σ vs := by
              have h1 : wipe σ4 vs = wipe (wipe σ vs) vs := wipe_ext l4 fun i hi => k4 i fun z => hi (hv i z)
              rw [h1]
              exact wipe_ext (wipe_len _ _) fun i hi => wipe_at hi
            refine ⟨hw4, ?_⟩
            have ap4 : Apart (DE.lockM M I1 H1 A items src) A δ4 I2 (Da, Da) := ⟨ap2.i, ap2.h, fun b z i hi => ap2.s b z i (m4 i hi), ap2.x⟩
            have st4 : StpD Da A δ1 I1 H1 δ4 I2 H2 := (stp'.trans nw.stp.d).mono m4
            refine ⟨_, A, I2, δ4, ok4, Wants.imp (Wants.lock (items := items) (src := src) ok1 (Wants.noX w')) fun kd e5 w5 => ?_⟩
            obtain ⟨k, δ5⟩ := kd
            intro I5 H5 ok5 st5
            obtain ⟨ap5, hD5⟩ := ap4.step hD2 st5
            have ra5 := ra2.mono st5.gro
            have stA := st4.trans (st5.d (Da := Da))
            cases k with
            | false =>
              refine iteF ?_
              replace w5 : Wants T M E (wipeD vs δ5 >>= fun δ6 => dcL t c fk fv vs (items.drop (i + 1)) ks ws δ6) KK := w5
              cases q7 : wipeD vs δ5 with
              | stuck => rw [q7] at w5; exact w5.elim
              | exc y => exact (wipeD_exc q7).elim
              | ok δ6 =>
                rw [q7, ok_bind] at w5
                have ok6 := ok5.wipe q7
                rw [hw4] at ok6
                have m6 := (wipeD_in q7).2
                exact ⟨I5, δ6, ks, ws, kvs, ok6, ⟨ap5.i, ap5.h, fun b z i hi => ap5.s b z i (m6 i hi), ap5.x⟩, hD5, ra5, by omega, (wipeD_in q7).1, stA.mono m6, w5⟩
            | true =>
              refine iteT ?_
              replace w5 : Wants T M E (noX (fk δ5) >>= fun y => ofO (keyR y.1) >>= fun key => noX (fv y.2) >>= fun u => takeR u.1 u.2 >>= fun e => wipeD vs e.2 >>= fun δ6 => dcL t c fk fv vs (items.drop (i + 1)) (dkKeys ks key) (dkVals ks ws key e.1) δ6) KK := w5
              refine ⟨_, A, I5, δ5, ok5, Wants.imp (Wants.lock (items := items) (src := src) ok1 (Wants.noX w5)) fun rd e7 w7 => ?_⟩
              obtain ⟨rk, δ7⟩ := rd
              intro y I7 H7 ok7 st7 rrk
              obtain ⟨ap7, hD7⟩ := ap5.step hD5 st7
              replace w7 : Wants T M E (ofO (keyR rk) >>= fun key => noX (fv δ7) >>= fun u => takeR u.1 u.2 >>= fun e => wipeD vs e.2 >>= fun δ6 => dcL t c fk fv vs (items.drop (i + 1)) (dkKeys ks key) (dkVals ks ws key e.1) δ6) KK := w7
              cases qk : keyR rk with
              | none => rw [qk] at w7; exact w7.elim
              | some key =>
                rw [qk, ofO_some, ok_bind] at w7
                have ey := keyR_rep rrk qk
                refine ⟨_, A, I7, δ7, ok7, Wants.imp (Wants.lock (items := items) (src := src) ok1 (Wants.noX w7)) fun rd e8 w8 => ?_⟩
                obtain ⟨r, δ8⟩ := rd
                intro v I8 H8 ok8 st8 rr
                obtain ⟨ap8, hD8⟩ := ap7.step hD7 st8
                replace w8 : Wants T M E (takeR r δ8 >>= fun e => wipeD vs e.2 >>= fun δ6 => dcL t c fk fv vs (items.drop (i + 1)) (dkKeys ks key) (dkVals ks ws key e.1) δ6) KK := w8
                cases q8 : takeR r δ8 with
                | stuck => rw [q8] at w8; exact w8.elim
                | exc y => exact (takeR_exc q8).elim
                | ok ed =>
                  obtain ⟨e, δ9⟩ := ed
                  rw [q8, ok_bind] at w8
                  obtain ⟨I9, ok9, st9, r9⟩ := ok8.hand rr q8
                  obtain ⟨ap9, hD9⟩ := ap8.step hD8 st9
                  replace w8 : Wants T M E (wipeD vs δ9 >>= fun δ6 => dcL t c fk fv vs (items.drop (i + 1)) (dkKeys ks key) (dkVals ks ws key e) δ6) KK := w8
                  cases q9 : wipeD vs δ9 with
                  | stuck => rw [q9] at w8; exact w8.elim
                  | exc y => exact (wipeD_exc q9).elim
                  | ok δ10 =>
                    rw [q9, ok_bind] at w8
                    have ok10 := ok9.wipe q9
                    rw [hw4] at ok10
                    have m10 := (wipeD_in q9).2
                    have ap10 : Apart (DE.lockM M I1 H1 A items src) A δ10 I9 (Da, Da) := ⟨ap9.i, ap9.h, fun b z i hi => ap9.s b z i (m10 i hi), ap9.x⟩
                    have ra9 := ((ra5.mono st7.gro).mono st8.gro).mono st9.gro
                    have hlen : kvs.length = ks.length := by
                      have := congrArg List.length ra.1
                      simpa using this
                    refine ⟨kvs, kk key, ey, hD9, ?_, I9, δ10, dkKeys ks key, dkVals ks ws key e, _, ok10.tmp ap10, ap10, upd_same, ra9.put r9, ?_, (wipeD_in q9).1, ?_, w8⟩
                    · rw [line_eq, hlen]
                      have : items.length ≤ 16777216 := hlim
                      omega
                    · have := dkKeys_len ks key
                      omega
                    · exact ((stA.trans ((st7.trans st8).trans st9).d).mono m10).tmp
        · have hi' : i = items.length := by omega
          subst hi'
          rw [List.drop_length, dcL] at w'
          refine .inl ⟨wk.stops I' H' ok'.sub (ok1.walked so q ok'), ?_⟩
          have okS : Ok T (DE.lockM M I1 H1 A items src) A I' σ H' δ' := Ok.resl ok' (wipe_len σ vs).symm fun i s e => (wipe_at fun z => hno i z s e).symm
          have okU := ok1.unlock so q okS
          have mU : ∀ (i : Nat) (s : S), (unlockD src δ')[i]? = some (some s) → ∃ s' : S, δ'[i]? = some (some s') ∧ (s.mut = true → s'.mut = true) := fun i s e => by
            cases src with
            | none => exact ⟨s, e, id⟩
            | some j =>
              simp only [unlockD] at e
              split at e
              · rename_i d hd
                by_cases z : i = j
                · subst z
                  exact ⟨_, hd, fun _ => rfl⟩
                · rw [List.getElem?_set_ne (Ne.symm z)] at e
                  exact ⟨s, e, id⟩
              · exact ⟨s, e, id⟩
          have mUm : ∀ i, mutAt (unlockD src δ') i → mutAt δ' i := fun i ⟨s, e, m⟩ => by
            obtain ⟨s', e', m'⟩ := mU i s e
            exact ⟨s', e', m' m⟩
          have hI : Same I1 I' := stp'.gro
          obtain ⟨okB, mB⟩ := ok1.back (vs := vs) hI okU (fun i hi s e => by
            obtain ⟨s', e', _⟩ := mU i s e
            exact hno i hi s' e')
          have e2 : (DE.lockM M I1 H1 A items src).H0 = M.H0 := by cases src <;> rfl
          have e3 : (DE.lockM M I1 H1 A items src).ex = M.ex := by cases src <;> rfl
          have w' : Wants T M E (pure (D.dk ks ws, backD δ1 vs (unlockD src δ'))) (postN T M A δ I H σ Q) := w'
          exact w' (Da, Da) I' H' okB (st1.trans ((stp'.mono fun i hi => mUm i (mB i hi)).stp hD)) ⟨rfl, kvs, hD', ra.1, ra.2⟩ ⟨ap'.i, fun b z => by rw [← e2]; exact ap'.h b z, fun b z i hi => ap'.s b z i (mUm i (mB i hi)), fun b z => by rw [← e3]; exact ap'.x b z⟩ (st1.back hD) (st1.back hD)
variable {X : Cx} {tg iter kx vx : Expr} {ifs : List Expr} {scope : Scope} {own : List (Str × Nat)} {pos : Pos}
theorem dn_dc (hN : X.N.Nodup) (hi : DI T X E tg iter gi) (ok : BlkOk X.N X.env.scope scope own) (hg : ForBlk X scope fun X => DG T X tg t) (ht : ForBlk X scope fun X => DTs T X E0' ifs c) (hk : ForBlk X scope fun X => DE T X E0' kx fk) (he : ForBlk X scope fun X => DE T X E0' vx fv)
    (hv : ∀ i ∈ t.ix, i ∈ own.map (·.2) := by decide) (hc : X.calm = true := by rfl) (hs : ∀ x, foldedSetIterable iter X.env x = pure x := by intro _; rfl) : DN T X E (.DictComp kx vx [⟨tg, iter, ifs, 0⟩] scope pos) (dcF gi t c fk fv (own.map (·.2))) :=
  PE.of (pe_dc hc hN hi ok hg ht hk he hs) (tDc_of hv)
end

/-! ### a def whose first argument is a fresh object of ours, handed over -/
def callFrF (F : FnSem) (f : FN) : FE := fun δ => do
  let (d, δ1) ← f δ
  F [.par d] >>= fun x => match x.1 with
    | .imm d' => pure (.imm d', δ1)
    | _ => .stuck
section
variable {T : Ctx} {X : Cx} {E : XK} {k : Nat} {f : Addr} {fd : FuncData} {ps : List Str} {F : FnSem} {x : Str} {p pos : Pos} {e : Expr}
theorem tCallFr_of {g : FN} {t : TE} (ht : ∀ σ H Q, tN T E g σ H Q → t σ H Q) : ∀ σ H Q, tE T E (callFrF F g) σ H Q → tCall (spF T 1 F) [] E (tCons t tNil) σ H Q := fun σ H Q ⟨M, A, I, δ, ok, w⟩ => by
  refine ht _ _ _ ⟨M, A, I, δ, ok, w.bind.imp fun (d, δ1) e1 w1 q I1 H1 ok1 st1 ow ap n1 n2 => ?_⟩
  replace w1 : Wants T M E (F [.par d] >>= fun x => match x.1 with
    | .imm d' => pure (R.imm d', δ1)
    | _ => .stuck) _ := w1
  show spF T 1 F ([V.ref q.1] ++ []) H1 Q E
  have okc : Ok T ⟨H1, I1, [(0, q)], []⟩ (fun _ => q) I1 ([V.ref q.1].map some) H1 ([S.par d].map some) := by
    refine ⟨ok1.sub, .refl _, fun _ _ h => .inl h, fun _ _ h _ => h, rfl, fun i t e => ?_, fun a b c' h1 h2 _ _ => ?_, fun y hy => ?_, fun y hy => (by cases hy)⟩
    · cases i with
      | zero =>
        cases e
        exact ⟨rfl, ow, ap.i, by simp⟩
      | succ i => simp at e
    · obtain ⟨t1, e1, m1⟩ := h1
      obtain ⟨t2, e2, m2⟩ := h2
      cases a with
      | zero => cases b with
        | zero => rfl
        | succ b => simp at e2
      | succ a => simp at e1
    · have hy : y = (0, q) := by simpa using hy
      subst hy
      exact ⟨⟨_, rfl⟩, rfl⟩
  have hq0 : ∀ b, (b = q.1 ∨ b = q.2) → H b = none := fun b hb => by
    rcases hb with rfl | rfl
    · exact n1
    · exact n2
  refine ⟨I1, [.par d], fun _ => q, rfl, by simp [goodArgs], okc, ?_⟩
  show Wants T ⟨H1, I1, [(0, q)], []⟩ E (F [.par d]) _
  have wb := w1.bind
  cases qF : F [.par d] with
  | stuck => rw [qF] at wb; exact wb.elim
  | exc y =>
    rw [qF] at wb
    intro cls dxx H' hX
    refine wb cls dxx H' ?_
    obtain ⟨I', h1, h2, h3, h4, h5⟩ := hX
    refine ⟨I', ok1.gro.trans h1, fun b u e => ?_, h3, fun b u e hn => h4 b u (ok1.kee b u e hn) fun y hy => ?_, h5⟩
    · rcases h2 b u e with z | z
      · exact ok1.fre b u z
      · exact .inr ((ok1.fresh (p := (b, b)) z z).h b (.inl rfl))
    · have hy : y = (0, q) := by simpa using hy
      subst hy
      refine ⟨fun z => ?_, fun z => ?_⟩
      · rw [ap.h b (.inl z)] at e; cases e
      · rw [ap.h b (.inr z)] at e; cases e
  | ok a =>
    rw [qF] at wb
    obtain ⟨zz, pp⟩ := a
    intro v' A' I' σ' H' δ' ok' hp rr
    replace ok' : Ok T ⟨H1, I1, [(0, q)], []⟩ A' I' σ' H' δ' := ok'
    obtain ⟨⟨d', e'⟩, ea⟩ := ok'.prs (0, q) (by simp)
    obtain ⟨_, ow', on', _⟩ := ok'.sl 0 _ e'
    have ea : A' 0 = q := ea
    cases zz with
    | imm d2 =>
      -- what stands apart from us at q has changed; all else is as it was or new
      have kee : ∀ b u, H1 b = some u → ¬ (b = q.1 ∨ b = q.2) → H' b = some u := fun b u e hn => ok'.kee b u e fun y hy => by
        have hy : y = (0, q) := by simpa using hy
        subst hy
        exact ⟨fun z => hn (.inl z), fun z => hn (.inr z)⟩
      have ok2 : Ok T M A I' σ H' δ1 := by
        have nf : ∀ i, mutAt δ1 i → ∀ b, fpt A i b → ¬ (b = q.1 ∨ b = q.2) := fun i hi b hb z => ap.s b z i hi hb
        have nI : ∀ b u, H1 b = some u → ¬ (b = q.1 ∨ b = q.2) → I1 b = none → I' b = none := fun b u hu hn hI => by
          cases z : I' b with
          | none => rfl
          | some o =>
            rcases ok'.fre b o z with y | y
            · have y : I1 b = some o := y
              rw [hI] at y; cases y
            · have y : H1 b = none := y
              rw [hu] at y; cases y
        refine ⟨ok'.sub, ok1.gro.trans ok'.gro, fun b u e => ?_, fun b u e hn => kee b u (ok1.kee b u e hn) fun z => (by
          rw [ap.h b z] at e
          cases e), ok1.len, fun i s e => ?_, ok1.inj, ok1.prs, ok1.lks⟩
        · rcases ok'.fre b u e with z | z
          · exact ok1.fre b u z
          · exact .inr ((ok1.fresh (p := (b, b)) z z).h b (.inl rfl))
        · have z := ok1.sl i s e
          have gr : Same I1 I' := ok'.gro
          cases s with
          | imm d =>
            obtain ⟨v, h1, h2⟩ := z
            exact ⟨v, h1, h2.mono gr⟩
          | own d =>
            obtain ⟨h1, h2, h3⟩ := z
            have hm : mutAt δ1 i := ⟨_, e, rfl⟩
            refine ⟨h1, h2.new gr fun b u f h => kee b u h (nf i hm b f), fun b f => ⟨?_, (h3 b f).2⟩⟩
            obtain ⟨u, hu⟩ := h2.fp f
            exact nI b u hu (nf i hm b f) (h3 b f).1
          | par d =>
            obtain ⟨h1, h2, h3, h4⟩ := z
            have hm : mutAt δ1 i := ⟨_, e, rfl⟩
            refine ⟨h1, h2.new gr fun b u f h => kee b u h (nf i hm b f), fun b f => ?_, h4⟩
            obtain ⟨u, hu⟩ := h2.fp f
            exact nI b u hu (nf i hm b f) (h3 b f)
          | lck d =>
            obtain ⟨h1, h2, h3, h4⟩ := z
            have hm : mutAt δ1 i := ⟨_, e, rfl⟩
            refine ⟨h1, h2.new gr fun b u f h => kee b u h (nf i hm b f), fun b f => ⟨?_, (h3 b f).2⟩, by rw [h2.root fun u y => kee _ u y (nf i hm _ (.inl rfl))]; exact h4⟩
            obtain ⟨u, hu⟩ := h2.fp f
            exact nI b u hu (nf i hm b f) (h3 b f).1
      refine wb v' I' H' ok2 ⟨st1.gro.trans ok'.gro, fun b o h => ?_, fun b o h hn => ?_, st1.mon, fun b o h => ?_⟩ rr
      · rcases ok'.fre b o h with z | z
        · exact st1.fre b o z
        · exact .inr (.inl (st1.back z))
      · refine kee b o (st1.kee b o h hn) fun z => ?_
        rw [hq0 b z] at h
        cases h
      · obtain ⟨o1, h1⟩ := st1.dom b o h
        refine ⟨o1, kee b o1 h1 fun z => ?_⟩
        rw [hq0 b z] at h
        cases h
    | own d2 => exact wb.elim
    | par d2 => exact wb.elim
    | lck d2 => exact wb.elim
theorem de_callFr {g : FN} (FO : FnOk X.prog X.w X.K X.mg X.base (L2.CX X.prog X.w) k f fd ps (spF T 1 F)) (hr : Room k X.A) (hm : X.mg x = some (.ref f)) (hk : PySem.W.keepIn X.K (.ref f) = true) (hb : Binds X.K fd ps []) (hx : Passes (L2.CX X.prog X.w) X E)
    (he' : DN T X E e g) (hg : Gl X x := by rfl) (hdb : (x == ("__debug__" : Str)) = false := by decide) (he : starEach [e] X.env = (false, eval e X.env) :: starEach [] X.env := by rfl) (hpl : (backTo pos (starEach [] X.env)).any (·.1) = false := by rfl) :
    DE T X E (.Call (.Name x p) [e] [] pos) (callFrF F g) :=
  PE.of (pe_call FO hr hg hm hk hb .nil hx (pa_cons he' pa_nil he) hdb he hpl) (tCallFr_of fun _ _ _ z => z)
end
end DE
set_option Elab.async false
set_option linter.all false
set_option maxRecDepth 100000
set_option maxHeartbeats 2000000
namespace DE
open PySem PySem.Spec PyProof.Rows L2

/-! ### a fresh dict becomes data: its object is known from then on -/
def tFrzN (t : TE) : TE := fun σ H Q => t σ H fun v H1 => ∃ p kvs, v = .ref p ∧ H1 p = some (.dK kvs) ∧ ∀ od, Q v (upd H1 p (.frz od (.dK kvs)))
theorem pe_frzN {X : Cx} {e : Expr} {t : TE} (h : PE X e t) : PE X e (tFrzN t) := ⟨fun pins s σ H Q I hw => thn (h.run pins s σ H _ I hw) fun v s1 ⟨x, H1, I1, r, p, kvs, ex, hp, q⟩ => by
  subst ex
  obtain ⟨od, I2⟩ := I1.lock hp (by trivial)
  exact ⟨.ref p, _, I2, r, q od⟩⟩
section
variable {T : Ctx} {M : Amb} {A : Pl} {I H : Hp} {σ : L2.St} {δ : Dl} {p : Addr} {o : HO}
/-- what stands apart is written anew, for good -/
theorem Ok.addI (x : Ok T M A I σ H δ) (ap : Apart M A δ I (p, p)) : Ok T M A (upd I p o) σ (upd H p o) δ := by
  have nf : ∀ i, mutAt δ i → ∀ b, fpt A i b → b ≠ p := fun i hi b hb z => ap.s p (.inl rfl) i hi (by rw [← z]; exact hb)
  have np : I p = none := ap.i p (.inl rfl)
  have sm : Same I (upd I p o) := fun b u e => by
    rw [upd_ne fun z => by rw [z, np] at e; cases e]
    exact e
  have hk : ∀ b u, H b = some u → b ≠ p → upd H p o b = some u := fun b u e n => by rw [upd_ne n]; exact e
  refine ⟨Same.upd x.sub, x.gro.trans sm, fun b u e => ?_, fun b u e hn => ?_, x.len, fun i s e => ?_, x.inj, x.prs, x.lks⟩
  · by_cases hb : b = p
    · subst hb
      exact .inr (ap.h b (.inl rfl))
    · rw [upd_ne hb] at e
      exact x.fre b u e
  · exact hk b u (x.kee b u e hn) fun z => by
      rw [z, ap.h p (.inl rfl)] at e
      cases e
  · have z := x.sl i s e
    cases s with
    | imm d =>
      obtain ⟨v, h1, h2⟩ := z
      exact ⟨v, h1, h2.mono sm⟩
    | own d =>
      obtain ⟨h1, h2, h3⟩ := z
      have hm : mutAt δ i := ⟨_, e, rfl⟩
      refine ⟨h1, h2.new sm fun b u f h => hk b u h (nf i hm b f), fun b f => ⟨?_, (h3 b f).2⟩⟩
      rw [upd_ne (nf i hm b f)]
      exact (h3 b f).1
    | par d =>
      obtain ⟨h1, h2, h3, h4⟩ := z
      have hm : mutAt δ i := ⟨_, e, rfl⟩
      refine ⟨h1, h2.new sm fun b u f h => hk b u h (nf i hm b f), fun b f => ?_, h4⟩
      rw [upd_ne (nf i hm b f)]
      exact h3 b f
    | lck d =>
      obtain ⟨h1, h2, h3, h4⟩ := z
      have hm : mutAt δ i := ⟨_, e, rfl⟩
      refine ⟨h1, h2.new sm fun b u f h => hk b u h (nf i hm b f), fun b f => ⟨?_, (h3 b f).2⟩, by rw [h2.root fun u y => hk _ u y (nf i hm _ (.inl rfl))]; exact h4⟩
      rw [upd_ne (nf i hm b f)]
      exact (h3 b f).1
end
def dictF (f : FN) : FE := fun δ => do
  let (d, δ1) ← f δ
  if isDk d then pure (.imm d, δ1) else .stuck
section
variable {T : Ctx} {X : Cx} {E : XK} {o e a b tg : Expr} {es : List Expr} {fo fa fb fe : FE} {fs : FA} {p pos apos cpos : Pos}
theorem tFrz_of {f : FN} {t : TE} (ht : ∀ σ H Q, tN T E f σ H Q → t σ H Q) : ∀ σ H Q, tE T E (dictF f) σ H Q → tFrzN t σ H Q := fun σ H Q ⟨M, A, I, δ, ok, w⟩ => by
  refine ht σ H _ ⟨M, A, I, δ, ok, w.bind.imp fun (d, δ1) e1 w1 p I1 H1 ok1 st1 ow ap n1 n2 => ?_⟩
  cases d with
  | dk ks ds =>
    obtain ⟨h12, kvs, hp, hk, r⟩ := ow
    refine ⟨p.1, kvs, rfl, hp, fun od => ?_⟩
    have ap' : Apart M A δ1 I1 (p.1, p.1) := by
      have : (p.1, p.1) = p := by
        obtain ⟨p1, p2⟩ := p
        simp only at h12
        rw [h12]
      rw [this]
      exact ap
    have ok2 := ok1.addI (o := .frz od (.dK kvs)) ap'
    have np : I1 p.1 = none := ap.i _ (.inl rfl)
    have sm : Same I1 (upd I1 p.1 (.frz od (.dK kvs))) := fun b u e => by
      rw [upd_ne fun z => by rw [z, np] at e; cases e]
      exact e
    refine w1 (.ref p.1) _ _ ok2 ⟨st1.gro.trans sm, fun b u h => ?_, fun b u h hn => ?_, st1.mon, fun b u h => ?_⟩ (show Rep T _ (.dk ks ds) (.ref p.1) from .ofdk upd_same hk (r.mono sm))
    · by_cases hb : b = p.1
      · rw [hb]; exact .inr (.inl n1)
      · rw [upd_ne hb] at h
        exact st1.fre b u h
    · have hb : b ≠ p.1 := fun z => by rw [z, n1] at h; cases h
      rw [upd_ne hb]
      exact st1.kee b u h hn
    · have hb : b ≠ p.1 := fun z => by rw [z, n1] at h; cases h
      rw [upd_ne hb]
      exact st1.dom b u h
  | _ => exact w1.elim
theorem de_dict {f : FN} (h : DN T X E e f) : DE T X E e (dictF f) := PE.of (pe_frzN h) (tFrz_of fun _ _ _ z => z)
/-- {} -/
def dk0N : FN := fun δ => .ok (.dk [] [], δ)
theorem dn_dk0 : DN T X E (.Dict [] [] pos) dk0N := PE.of pe_dnewK fun σ H Q ⟨M, A, I, δ, ok, w⟩ => fun p hp => by
  obtain ⟨k1, k2, k3⟩ := ap_new (d := .dk [] []) (o := .dK []) ok hp
  exact w (p, p) I _ k1 k2 ⟨rfl, [], upd_same, rfl, .nil⟩ k3 hp hp

/-! ### for k in d -/
def keyD : DK → D
  | .i n => .int n
  | .s x => .str x
def keysF (f : FE) : FI := fun δ => do
  let (r, δ1) ← f δ
  match r with
  | .imm (.dk ks _) => pure ((ks.map keyD, none), δ1)
  | _ => .stuck
theorem keyD_rep {I : Hp} (k : DK) : Rep T I (keyD k) (kV (kk k)) := by
  cases k with
  | i n => exact .ofint
  | s x => exact .ofstr
theorem di_keys {f : FE} (he : DE T X E e f) : DI T X E tg e (keysF f) := PI.of (pi_keys he) fun σ H R ⟨M, A, I, δ, ok, w⟩ => ⟨M, A, I, δ, ok, w.bind.imp fun (r, δ1) e1 w1 v I1 H1 ok1 st1 rr => by
  cases r with
  | slot j => exact w1.elim
  | imm d =>
    cases d with
    | dk ks ds =>
      obtain ⟨a, o, kvs, rfl, hq, hk, rds⟩ := (show Rep T I1 (.dk ks ds) v from rr).dk_inv
      refine ⟨a, o, rfl, .inl ⟨kvs, ok1.sub _ _ hq, w1 _ I1 H1 ok1 st1 trivial ?_⟩⟩
      have hlen : kvs.length = ks.length := by simpa using congrArg List.length hk
      refine ⟨fun i I2 H2 hi s g => ⟨s _ _ (g _ _ hq), by rw [List.length_map] at hi; omega⟩, fun I2 H2 s g => ⟨s _ _ (g _ _ hq), by rw [List.length_map, hlen]; exact Nat.le_refl _⟩, fun i I2 H2 x H' d hd s g y => ?_⟩
      obtain ⟨rfl, k, v, e1, rfl⟩ := y
      refine ⟨I2, .refl s, ?_⟩
      have e2 : (kvs.map (·.1))[i]? = some k := by rw [List.getElem?_map, e1]; rfl
      rw [hk, List.getElem?_map] at e2
      rw [List.getElem?_map] at hd
      cases h3 : ks[i]? with
      | none => rw [h3] at hd; cases hd
      | some k0 =>
        rw [h3] at hd e2
        cases hd
        cases e2
        exact keyD_rep k0
    | _ => exact w1.elim⟩

/-! ### d.get(k, x) -/
def getF (fo fk fx : FE) : FE := fun δ => do
  let (r0, δ1) ← fo δ
  match r0 with
  | .imm (.dk ks ds) => do
    let (r1, δ2) ← fk δ1
    let k ← ofO (keyR r1)
    let (r2, δ3) ← fx δ2
    match dkGet ks ds k with
    | some d => pure (.imm d, δ3)
    | none => pure (r2, δ3)
  | _ => .stuck
theorem dk_miss {I : Hp} {x : DK} : ∀ {ks : List DK} {ds : List D} {kvs : List (Key × V)}, kvs.map (·.1) = ks.map kk → Reps T I ds (kvs.map (·.2)) → dkGet ks ds x = none → valV kvs (kk x) = none
  | [], ds, kvs, hk, _, h => by
    cases kvs with
    | nil => rfl
    | cons _ _ => cases hk
  | k :: ks, [], kvs, hk, r, h => by
    have := r.nil_inv
    cases kvs with
    | nil => cases hk
    | cons _ _ => cases this
  | k :: ks, d' :: ds, [], hk, _, h => by cases hk
  | k :: ks, d' :: ds, kv :: kvs, hk, r, h => by
    simp only [List.map_cons, List.cons.injEq] at hk
    obtain ⟨v, vr, e, r1, r2⟩ := r.cons_inv
    simp only [List.map_cons, List.cons.injEq] at e
    obtain ⟨rfl, rfl⟩ := e
    simp only [dkGet] at h
    split at h
    · cases h
    · rename_i hx
      rw [valV_neg (by rw [hk.1]; exact fun z => hx (kk_inj.mp z))]
      exact dk_miss hk.2 r2 h
theorem de_get2 {k : Nat} {f : Expr} {fk fx : FE} (hr : Room k X.A) (ho : DE T X E o fo) (he : DE T X E e fk) (hf : DE T X E f fx) (m : M2 X o "get" apos e f cpos := by exact ⟨rfl, rfl, rfl, rfl⟩) : DE T X E (.Call (.Attribute o "get" apos) [e, f] [] cpos) (getF fo fk fx) :=
  PE.of (pe_dget2 (units1 hr) ho he hf m) fun σ H Q ⟨M, A, I, δ, ok, w⟩ => ⟨M, A, I, δ, ok, w.bind.imp fun (r0, δ1) e1 w1 v I1 H1 ok1 st1 rr => by
    cases r0 with
    | slot j => exact w1.elim
    | imm d =>
      cases d with
      | dk ks ds =>
        obtain ⟨a, o, kvs, rfl, hq, hk, rds⟩ := (show Rep T I1 (.dk ks ds) v from rr).dk_inv
        refine ⟨a, rfl, .inl ⟨kvs, .inr ⟨o, ok1.sub _ _ hq⟩⟩, ?_⟩
        replace w1 : Wants T M E (fk δ1 >>= fun y => ofO (keyR y.1) >>= fun k => fx y.2 >>= fun z => match dkGet ks ds k with
          | some d => pure (R.imm d, z.2)
          | none => pure (z.1, z.2)) _ := w1
        refine ⟨M, A, I1, δ1, ok1, w1.bind.imp fun (r1, δ2) e2 w2 y I2 H2 ok2 st2 rr2 => ?_⟩
        cases qk : keyR r1 with
        | none => simp only [qk] at w2; exact w2.elim
        | some key =>
          simp only [qk, ofO_some, ok_bind] at w2
          have ey := keyR_rep rr2 qk
          refine ⟨M, A, I2, δ2, ok2, w2.bind.imp fun (r2, δ3) e3 w3 z I3 H3 ok3 st3 rr3 => ?_⟩
          have hq3 : H3 a = some (.frz o (.dK kvs)) := ok3.sub _ _ (st3.gro _ _ (st2.gro _ _ hq))
          have rd3 := (rds.mono st2.gro).mono st3.gro
          refine ⟨valV kvs (kk key), .inl ⟨kvs, kk key, .inr ⟨o, hq3⟩, ey, rfl⟩, ?_⟩
          cases qg : dkGet ks ds key with
          | some d =>
            simp only [qg] at w3
            obtain ⟨v, h1, h2⟩ := dk_get hk rd3 qg
            rw [h1]
            exact w3 v I3 H3 ok3 ((st1.trans st2).trans st3) h2
          | none =>
            simp only [qg] at w3
            rw [dk_miss hk rd3 qg]
            exact w3 z I3 H3 ok3 ((st1.trans st2).trans st3) rr3
      | _ => exact w1.elim⟩

/-! ### max, min of two -/
def max2D : List D → Option D
  | [.int i, .int j] => some (.int (if j > i then j else i))
  | _ => none
def min2D : List D → Option D
  | [.int i, .int j] => some (.int (if j < i then j else i))
  | _ => none
theorem g_max2 : GC T (fun xs H Q => ∃ i j, xs = [.int i, .int j] ∧ Q (.int (if j > i then j else i)) H) max2D := by
  intro I H ds vs d Q s h e q
  unfold max2D at e
  split at e
  · cases e
    obtain ⟨v, w, rfl, h1, h2⟩ := redl2 h
    rw [h1.int_inv, h2.int_inv]
    exact ⟨_, _, rfl, q _ I H (.refl s) .ofint⟩
  · cases e
theorem g_min2 : GC T (fun xs H Q => ∃ i j, xs = [.int i, .int j] ∧ Q (.int (if j < i then j else i)) H) min2D := by
  intro I H ds vs d Q s h e q
  unfold min2D at e
  split at e
  · cases e
    obtain ⟨v, w, rfl, h1, h2⟩ := redl2 h
    rw [h1.int_inv, h2.int_inv]
    exact ⟨_, _, rfl, q _ I H (.refl s) .ofint⟩
  · cases e
theorem de_max2 (hm : X.mg "max" = none) (ha : DA T X E [a, b] fs) (hg : Gl X "max" := by rfl) (hc : X.calm = true := by rfl) (he : starEach [a, b] X.env = (false, eval a X.env) :: starEach [b] X.env := by rfl) (hpl : (backTo pos (starEach [b] X.env)).any (·.1) = false := by rfl) : DE T X E (.Call (.Name "max" p) [a, b] [] pos) (biF max2D fs) :=
  de_biB (call_max2 hc) g_max2 hm ha hg (by rfl) (by decide) (by decide) he hpl
theorem de_min2 (hm : X.mg "min" = none) (ha : DA T X E [a, b] fs) (hg : Gl X "min" := by rfl) (hc : X.calm = true := by rfl) (he : starEach [a, b] X.env = (false, eval a X.env) :: starEach [b] X.env := by rfl) (hpl : (backTo pos (starEach [b] X.env)).any (·.1) = false := by rfl) : DE T X E (.Call (.Name "min" p) [a, b] [] pos) (biF min2D fs) :=
  de_biB (call_min2 hc) g_min2 hm ha hg (by rfl) (by decide) (by decide) he hpl
end
end DE
set_option Elab.async false
set_option linter.all false
set_option maxRecDepth 100000
set_option maxHeartbeats 2000000
namespace DE
open PySem PySem.Spec PyProof.Rows L2

/-! ### min, max of a list -/
theorem argBest_le (bt : Nat → Nat → Bool) : ∀ k, argBest bt k ≤ k
  | 0 => Nat.le_refl _
  | k + 1 => by
    show (if bt (k + 1) (argBest bt k) then k + 1 else argBest bt k) ≤ k + 1
    split
    · exact Nat.le_refl _
    · exact Nat.le_succ_of_le (argBest_le bt k)
theorem argBest_min {val : Nat → List Nat} : ∀ k i, i ≤ k → ¬ val i < val (argBest (fun i j => decide (val i < val j)) k)
  | 0, i, h => by
    have : i = 0 := by omega
    subst this
    exact List.lt_irrefl _
  | k + 1, i, h => by
    show ¬ val i < val (if decide (val (k + 1) < val (argBest (fun i j => decide (val i < val j)) k)) then k + 1 else argBest (fun i j => decide (val i < val j)) k)
    by_cases hb : val (k + 1) < val (argBest (fun i j => decide (val i < val j)) k)
    · rw [if_pos (by simpa using hb)]
      by_cases hi : i = k + 1
      · subst hi
        exact List.lt_irrefl _
      · intro c
        exact argBest_min k i (by omega) (List.lt_trans c hb)
    · rw [if_neg (by simpa using hb)]
      by_cases hi : i = k + 1
      · subst hi
        exact hb
      · exact argBest_min k i (by omega)
def rMinS (K : PySem.W.Frag) : List V → Hp → VK → Prop := fun vs H Q => ∃ (a : Addr) (ss : List Str), vs = [V.ref a] ∧ SqL K H a (ss.map V.str) ∧ 0 < ss.length ∧ ∀ m, m ∈ ss → (∀ y, y ∈ ss → ¬ y.cps.toList < m.cps.toList) → Q (.str m) H
theorem cr_minS {X : Cx} (hc : X.calm = true) : CallR X (.builtin "min") (rMinS X.K) := by
  intro pins s σ H vs us Q I r h
  obtain ⟨a, ss, rfl, hs, hne, q⟩ := h
  obtain ⟨its, rv, hl, hz⟩ := I.list hs
  rw [Vals.ref1 r]
  have hS := rv.strs
  have hlen : its.toArray.size = ss.length := by
    rw [List.size_toArray, ← rv.length, List.length_map]
  have hat : ∀ (i : Nat) (v : Value), its.toArray[i]? = some v → ∃ x t, ss[i]? = some x ∧ v = .str x t := fun i v e => by
    have e' : its[i]? = some v := by simpa using e
    have hi : i < ss.length := by
      have := (List.getElem?_eq_some_iff.mp e').1
      rw [List.size_toArray] at hlen
      omega
    have e1 : (ss.map V.str)[i]? = some (.str ss[i]) := by rw [List.getElem?_map, List.getElem?_eq_getElem hi]; rfl
    obtain ⟨u, h1, h2⟩ := rv.get e1
    rw [e'] at h1
    cases h1
    obtain ⟨t, rfl⟩ := h2
    exact ⟨_, t, List.getElem?_eq_getElem hi, rfl⟩
  refine call_min_walk (iter_any hl.isList fun s₂ e2 st hnel => ?_)
  subst e2
  refine ⟨_, _, _, its.toArray.size, fun i v => its.toArray[i]? = some v, fun i h => h.IsListIter s.heap.objs.size a i ∧ h.IsList a its.toArray, fun i j => decide (((ss[i]?).getD Str.empty).cps.toList < ((ss[j]?).getD Str.empty).cps.toList), rfl, Walks.list (A := X.A.in1) (I.ok.hd hc) _ a hnel its.toArray, st, fun b hb => ?_, by rw [hlen]; exact hne, ?_, fun v h' tk hP hk => ?_⟩
  · have hlt : a < s.heap.objs.size := by obtain ⟨_, e, _⟩ := hl.isList; exact Heap.lt_size e
    show b < (s.heap.push _).objs.size
    rw [Heap.size_push]
    rcases List.mem_cons.mp hb with rfl | hb
    · exact Nat.lt_succ_self _
    · rcases List.mem_cons.mp hb with rfl | hb
      · exact Nat.lt_succ_of_lt hlt
      · cases hb
  · intro i j vi vj s' Q' E' hi hj hq
    obtain ⟨x, t, e1, rfl⟩ := hat i vi hi
    obtain ⟨y, u, e2, rfl⟩ := hat j vj hj
    simp only [e1, e2, Option.getD_some] at hq
    exact (PyProof.Rows.lt_str hq : wpAny _ _ (compareOp .Lt _ _) _ _ _)
  · obtain ⟨x, t, e1, rfl⟩ := hat _ v hP
    refine ⟨.str x, H, I.kept (PySem.old_kept hk), ⟨t, rfl⟩, q x (List.mem_iff_getElem?.mpr ⟨_, e1⟩) fun y hy => ?_⟩
    obtain ⟨i, hi, rfl⟩ := List.getElem_of_mem hy
    have := argBest_min (val := fun i => ((ss[i]?).getD Str.empty).cps.toList) (its.toArray.size - 1) i (by rw [hlen]; omega)
    simp only [e1, List.getElem?_eq_getElem hi, Option.getD_some] at this
    exact this
def minLD : List D → Option D
  | [.lst xs] => match strsD xs with
    | some ss => (sortS ss).head?.map .str
    | none => (intsD xs).bind fun ns => (sortI' ns).head?.map .int
  | _ => none
def maxLD : List D → Option D
  | [.lst xs] => (intsD xs).bind fun ns => (sortI' ns).getLast?.map .int
  | _ => none
theorem head_min {α : Type} {le : α → α → Bool} (ht : ∀ a b c, le a b = true → le b c = true → le a c = true) (hl : ∀ a b, le a b = true ∨ le b a = true) (ha : ∀ a b, le a b = true → le b a = true → a = b) {l : List α} {m m' : α} (h : (isort le l).head? = some m) (hm : m' ∈ l) (hmin : ∀ y ∈ l, le m' y = true) : m' = m := by
  have hp := isort_perm le l
  have hs := isort_sorted ht hl l
  cases q : isort le l with
  | nil => rw [q] at h; cases h
  | cons x r =>
    rw [q] at h hp hs
    cases h
    have hx : m ∈ l := hp.mem_iff.mp List.mem_cons_self
    have h1 := hmin m hx
    have h2 : le m m' = true := by
      rcases List.mem_cons.mp (hp.mem_iff.mpr hm) with e | e
      · rw [e]
        rcases hl m m with z | z <;> exact z
      · exact (List.pairwise_cons.mp hs).1 m' e
    exact ha _ _ h1 h2
theorem last_max {α : Type} {le : α → α → Bool} (ht : ∀ a b c, le a b = true → le b c = true → le a c = true) (hl : ∀ a b, le a b = true ∨ le b a = true) (ha : ∀ a b, le a b = true → le b a = true → a = b) {l : List α} {m m' : α} (h : (isort le l).getLast? = some m) (hm : m' ∈ l) (hmax : ∀ y ∈ l, le y m' = true) : m' = m := by
  have hp := isort_perm le l
  have hs := isort_sorted ht hl l
  have hx : m ∈ l := hp.mem_iff.mp (List.mem_of_getLast? h)
  refine ha _ _ ?_ (hmax m hx)
  have hm' := hp.mem_iff.mpr hm
  obtain ⟨r, e⟩ := List.getLast?_eq_some_iff.mp h
  rw [e] at hs hm'
  rcases List.mem_append.mp hm' with z | z
  · exact (List.pairwise_append.mp hs).2.2 _ z _ (List.mem_singleton.mpr rfl)
  · rw [List.mem_singleton.mp z]
    rcases hl m m with z | z <;> exact z
section
variable {T : Ctx} {X : Cx} {E : XK} {o e a b tg : Expr} {es : List Expr} {fo fa fb fe : FE} {fs : FA} {p pos apos cpos : Pos}
def rMinA (K : PySem.W.Frag) : List V → Hp → VK → Prop := fun vs H Q => rMinS K vs H Q ∨ rMin K vs H Q
theorem g_minL (hK : T.K = X.K) : GC T (rMinA X.K) minLD := by
  intro I H ds vs d Q s h e q
  match ds, e with
  | [.lst xs], e =>
    obtain ⟨v, rfl, h1⟩ := redl1 h
    obtain ⟨a, ys, rfl, hq, r⟩ := h1.lst_inv s
    simp only [minLD] at e
    cases e3 : strsD xs with
    | some ss =>
      rw [e3] at e
      simp only [Option.map_eq_some_iff] at e
      obtain ⟨m, hm, rfl⟩ := e
      have := strs_map e3
      subst this
      refine .inl ⟨a, ss.map mkS, rfl, by rw [← reps_strs2 r]; exact .of hq, ?_, fun m' hm' hmin => ?_⟩
      · rw [List.length_map]
        cases ss with
        | nil => cases hm
        | cons _ _ => simp
      · obtain ⟨z, hz, rfl⟩ := List.mem_map.mp hm'
        have : z = m := by
          refine head_min leS_t leS_l leS_a hm hz fun y hy => ?_
          rw [leS_iff]
          have := hmin (mkS y) (List.mem_map_of_mem hy)
          rwa [mkS_cps, mkS_cps, lt_map] at this
        rw [this]
        exact q _ I H (.refl s) .ofstr
    | none =>
      rw [e3] at e
      simp only [Option.bind_eq_some_iff, Option.map_eq_some_iff] at e
      obtain ⟨ns, e4, m, hm, rfl⟩ := e
      have := ints_map e4
      subst this
      refine .inr ⟨a, ns, rfl, by rw [← reps_ints r]; exact .of hq, ?_, fun m' hm' hmin => ?_⟩
      · cases ns with
        | nil => cases hm
        | cons _ _ => simp
      · have : m' = m := head_min leI_t leI_l leI_a hm hm' fun y hy => by simpa [leI] using hmin y hy
        rw [this]
        exact q _ I H (.refl s) .ofint
theorem g_maxL (hK : T.K = X.K) : GC T (rMax X.K) maxLD := by
  intro I H ds vs d Q s h e q
  match ds, e with
  | [.lst xs], e =>
    obtain ⟨v, rfl, h1⟩ := redl1 h
    obtain ⟨a, ys, rfl, hq, r⟩ := h1.lst_inv s
    simp only [maxLD, Option.bind_eq_some_iff, Option.map_eq_some_iff] at e
    obtain ⟨ns, e4, m, hm, rfl⟩ := e
    have := ints_map e4
    subst this
    refine ⟨a, ns, rfl, by rw [← reps_ints r]; exact .of hq, ?_, fun m' hm' hmax => ?_⟩
    · cases ns with
      | nil => cases hm
      | cons _ _ => simp
    · have : m' = m := last_max leI_t leI_l leI_a hm hm' fun y hy => by simpa [leI] using hmax y hy
      rw [this]
      exact q _ I H (.refl s) .ofint
theorem de_minL (hm : X.mg "min" = none) (ha : DA T X E [e] fs) (hg : Gl X "min" := by rfl) (hc : X.calm = true := by rfl) (hK : T.K = X.K := by rfl) (he : starEach [e] X.env = (false, eval e X.env) :: starEach [] X.env := by rfl) : DE T X E (.Call (.Name "min" p) [e] [] pos) (biF minLD fs) :=
  de_biB ((cr_minS hc).or (cr_min hc)) (g_minL hK) hm ha hg (by rfl) (by decide) (by decide) he
theorem de_maxL (hm : X.mg "max" = none) (ha : DA T X E [e] fs) (hg : Gl X "max" := by rfl) (hc : X.calm = true := by rfl) (hK : T.K = X.K := by rfl) (he : starEach [e] X.env = (false, eval e X.env) :: starEach [] X.env := by rfl) : DE T X E (.Call (.Name "max" p) [e] [] pos) (biF maxLD fs) :=
  de_biB (cr_max hc) (g_maxL hK) hm ha hg (by rfl) (by decide) (by decide) he
/-! ### dicts of unlike lengths, empty ones: == -/
def eqDkD : D → D → Option D
  | .dk ks _, .dk ks' _ => if ks.length ≠ ks'.length then some (.bl false) else if ks = [] then some (.bl true) else none
  | _, _ => none
def rEqDk : R2 := fun x y H Q => ∃ a b ka kb, x = .ref a ∧ y = .ref b ∧ Rd H a (.dK ka) ∧ Rd H b (.dK kb) ∧ (ka.length ≠ kb.length ∧ Q (.bl false) H ∨ ka = [] ∧ kb = [] ∧ Q (.bl true) H)
theorem op_eqDk (hu : X.A.units < cLine) : OpR X (compareOp .Eq) rEqDk := by
  intro pins s σ H x y v u Q I rx ry h
  obtain ⟨a, b, ka, kb, rfl, rfl, ha, hb, h⟩ := h
  cases (show v = Value.ref a from rx)
  cases (show u = Value.ref b from ry)
  obtain ⟨_, la, va, ra, da⟩ := dk_rd (P := X.prog) (w := X.w) I.hok ha
  obtain ⟨_, lb, vb, rb, db⟩ := dk_rd (P := X.prog) (w := X.w) I.hok hb
  have l1 : ka.length = va.length := Paired.length ra
  have l2 : kb.length = vb.length := Paired.length rb
  rcases h with ⟨hn, q⟩ | ⟨rfl, rfl, q⟩
  · refine (PySem.W.rcP_dicts (r := true) la lb da db hu (fun z => absurd z (by omega)) _ _ ?_ : wpAny _ _ (richCompare .Eq _ _) _ _ s)
    have : (va.length == vb.length && true) = false := by
      rw [Bool.and_true]
      exact beq_eq_false_iff_ne.mpr (by omega)
    rw [this]
    exact ⟨.bl false, H, I, rfl, q⟩
  · have e1 : va = [] := List.length_eq_zero_iff.mp l1.symm
    have e2 : vb = [] := List.length_eq_zero_iff.mp l2.symm
    subst e1 e2
    refine (PySem.W.rcP_dicts (r := true) la lb da db hu (fun _ => .nil) _ _ ?_ : wpAny _ _ (richCompare .Eq _ _) _ _ s)
    exact ⟨.bl true, H, I, rfl, q⟩
theorem g_eqDk : G2 T rEqDk eqDkD := by
  intro I H d1 d2 d v1 v2 Q s h1 h2 e q
  unfold eqDkD at e
  split at e
  · obtain ⟨a, ka, rfl, ha, ea, ra⟩ := h1.dk_inv s
    obtain ⟨b, kb, rfl, hb, eb, rb⟩ := h2.dk_inv s
    have la := congrArg List.length ea
    have lb := congrArg List.length eb
    simp only [List.length_map] at la lb
    split at e
    · rename_i hn
      cases e
      exact ⟨a, b, ka, kb, rfl, rfl, ha, hb, .inl ⟨by omega, q _ I H (.refl s) .ofbl⟩⟩
    · rename_i hn
      split at e
      · rename_i hz
        cases e
        have hz' := congrArg List.length hz
        simp only [List.length_nil] at hz'
        exact ⟨a, b, ka, kb, rfl, rfl, ha, hb, .inr ⟨List.length_eq_zero_iff.mp (by omega), List.length_eq_zero_iff.mp (by omega), q _ I H (.refl s) .ofbl⟩⟩
      · cases e
  · cases e
theorem units0 {k : Nat} {A : Around} (r : Room k A) : A.units < cLine := by have := r.un; omega
theorem de_eqDk {k : Nat} (hr : Room k X.A) (ha : DE T X E a fa) (hb : DE T X E b fb) : DE T X E (.Compare a [.Eq] [b] pos) (op2F eqDkD fa fb) := de_cmp (op_eqDk (units0 hr)) g_eqDk ha hb (nomark _)
theorem dt_eqDk {k : Nat} (hr : Room k X.A) (ha : DE T X E a fa) (hb : DE T X E b fb) : DT T X E (.Compare a [.Eq] [b] pos) (boolF (op2F eqDkD fa fb)) := dt_cmp (op_eqDk (units0 hr)) g_eqDk ha hb (nomark _)
end
end DE
set_option Elab.async false
set_option linter.all false
set_option maxRecDepth 100000
set_option maxHeartbeats 2000000
namespace DE
open PySem PySem.Spec PyProof.Rows L2

/-! ### the head: defs and facts by tables -/
/-- a def: where it stands, its names, its text, its defaults -/
structure DefX where
  at_ : PySem.W.Frag → Addr
  name : Str
  qual : Str
  st : Stmt
  dfl : PySem.W.Frag → List V := fun _ => []
def fnAt (K : PySem.W.Frag) (a : Addr) : He.FnW := match K.lookup a with
  | some ⟨_, _, .func fd, _⟩ => some (fd.name, fd.qualname, fd.params, fd.body, fd.scope, fd.globals, fd.closure, fd.builtins)
  | _ => none
def DefX.val (d : DefX) : He.FnW := some (d.name, d.qual, defArgs d.st, .stmts (defBody d.st), defScope d.st, mainGlobals, [], builtinsNs)
def DefX.ok (K : PySem.W.Frag) (d : DefX) : Bool := PySem.W.keepIn K (.ref (d.at_ K)) && (match K.lookup (d.at_ K) with
  | some ⟨_, _, .func fd, _⟩ => PySem.W.codeIn K fd.code d.qual && He.dflB K fd.defaults (d.dfl K)
  | _ => false)
abbrev DefOk (K : PySem.W.Frag) (d : DefX) (fd : FuncData) : Prop := FunD K d.name d.qual (defArgs d.st) (defBody d.st) (defScope d.st) (d.dfl K) [] (d.at_ K) fd
theorem DefX.funD {K : PySem.W.Frag} {d : DefX} (e : fnAt K (d.at_ K) = d.val) (c : d.ok K = true) : ∃ fd, DefOk K d fd := by
  obtain ⟨kp, c2⟩ := He.ba c
  unfold fnAt at e
  cases q : K.lookup (d.at_ K) with
  | none =>
    rw [q] at c2
    cases c2
  | some o =>
    obtain ⟨oc, od, dt, osl⟩ := o
    rw [q] at c2 e
    cases dt with
    | func fd =>
      obtain ⟨n1, n2, n3, n4, n5, n6, n7, n8, n9, n10, n11, n12, n13, n14, n15⟩ := fd
      have e2 : (some (n1, n2, n3, n4, n5, n6, n7, n15) : He.FnW) = some (d.name, d.qual, defArgs d.st, .stmts (defBody d.st), defScope d.st, mainGlobals, [], builtinsNs) := e
      simp only [Option.some.injEq, Prod.mk.injEq] at e2
      obtain ⟨h1, h2, h3, h4, h5, h6, h7, h8⟩ := e2
      subst h1 h2 h3 h4 h5 h6 h7 h8
      have c3 : (PySem.W.codeIn K n13 d.qual && He.dflB K n8 (d.dfl K)) = true := c2
      obtain ⟨k1, k3⟩ := He.ba c3
      exact ⟨_, ⟨oc, od, n8, n9, n10, n11, n12, n13, n14, osl, rfl, q, k1, He.dflB_ok k3, .inl rfl⟩, kp⟩
    | _ => cases c2
/-- a property's own def -/
def pfAt (K : PySem.W.Frag) (C : Addr) (m : Str) : Addr := match PySem.W.recIn K (He.ma K C m) "property" with
  | some (.ref g :: _) => g
  | _ => 0
/-- the i-th default of the def at a, if it is an object -/
def dfAt (K : PySem.W.Frag) (a : Addr) (i : Nat) : Addr := match K.lookup a with
  | some ⟨_, _, .func fd, _⟩ => (match fd.defaults with
    | .ref T => (match K.lookup T with
      | some ⟨_, _, .seq its _, _⟩ => (match its.toList[i]? with
        | some (.ref b) => b
        | _ => 0)
      | _ => 0)
    | _ => 0)
  | _ => 0
/-- a tuple without items stands at a -/
def tup0B (K : PySem.W.Frag) (a : Addr) : Bool := match K.lookup a with
  | some ⟨.type c, _, .seq its _, _⟩ => decide (c = "tuple") && decide (its.toList = [])
  | _ => false
abbrev FactX := PySem.W.Frag → Bool
def obsX (fa : List FactX) (fn : List DefX) (K : PySem.W.Frag) : He.AlD := ((fa.all fun f => f K) && fn.all fun d => d.ok K, fn.map fun d => fnAt K (d.at_ K))
def valX (fn : List DefX) : He.AlD := (true, fn.map DefX.val)
def SaysX (fa : List FactX) (fn : List DefX) (K : PySem.W.Frag) : Prop := obsX fa fn K = valX fn
def obsXG (n : Nat) (fa : List FactX) (fn : List DefX) (g : Addr → Option Obj) : He.AlD := obsX fa fn (He.frG g (He.asD g n))
def hookX (n : Nat) (fa : List FactX) (fn : List DefX) : PySem.W.Hook where
  α := He.AlD
  obs := fun s => obsXG n fa fn s.heap.get?
  val := fun _ => valX fn
  says := fun _ h => ∃ K : PySem.W.Frag, K.In h ∧ SaysX fa fn K
  of := fun _ _ e => ⟨_, He.frG_in, e⟩
  keeps := fun _ _ _ ⟨K, hK, c⟩ k => ⟨K, PySem.W.Frag.In.keeps hK k, c⟩
theorem obsXG_eq {n : Nat} {fa : List FactX} {fn : List DefX} {g : Addr → Option Obj} {s : Shared} (h : ∀ a, g a = s.heap.get? a) : obsXG n fa fn g = (hookX n fa fn).obs s := by
  have e : g = s.heap.get? := funext h
  rw [e] <;> rfl
section
variable {fa : List FactX} {fn : List DefX} {K : PySem.W.Frag}
theorem SaysX.fact (c : SaysX fa fn K) (i : Nat) {f : FactX} (h : fa[i]? = some f := by rfl) : f K = true := by
  have c1 := (He.ba (show ((fa.all fun f => f K) && fn.all fun d => d.ok K) = true from congrArg (fun z : He.AlD => z.1) c)).1
  exact List.all_eq_true.mp c1 f (List.mem_of_getElem? h)
theorem SaysX.def_ (c : SaysX fa fn K) (i : Nat) {d : DefX} (h : fn[i]? = some d := by rfl) : ∃ fd, DefOk K d fd := by
  have c2 := (He.ba (show ((fa.all fun f => f K) && fn.all fun d => d.ok K) = true from congrArg (fun z : He.AlD => z.1) c)).2
  have e : fn.map (fun d => fnAt K (d.at_ K)) = fn.map DefX.val := congrArg (fun z : He.AlD => z.2) c
  have e2 : (fn.map fun d => fnAt K (d.at_ K))[i]? = (fn.map DefX.val)[i]? := by rw [e]
  rw [List.getElem?_map, List.getElem?_map, h] at e2
  exact DefX.funD (Option.some.inj e2) (List.all_eq_true.mp c2 d (List.mem_of_getElem? h))
end
/-! ### facts of classes -/
def feq (a b : Option (Option Value)) : Bool := decide (a = b)
def fGlo (x : Str) : FactX := fun K => feq (PySem.W.nsIn K mainGlobals x) (some (some (.ref (He.ga K x))))
def fFree (x : Str) : FactX := fun K => feq (PySem.W.nsIn K mainGlobals x) (some none)
def fInt (x : Str) (i : Int) : FactX := fun K => match PySem.W.nsIn K mainGlobals x with
  | some (some (.int j _)) => decide (j = i)
  | _ => false
theorem fInt_ok {K : PySem.W.Frag} {h : Heap} {mg : Str → Option Value} (X : K.In h) (G : h.Ns mainGlobals mg) {x : Str} {i : Int} (c : fInt x i K = true) : ∃ t, mg x = some (.int i t) := He.int_ok X G (c := c)
def fSCls (x : Str) : FactX := fun K => PySem.W.plainGet K (He.ga K x) Str.empty && (PySem.W.isClsIn K (He.ga K x) && (PySem.W.plainOver K (He.ga K x) && feq (PySem.W.findIn K (.ref (He.ga K x)) "__setattr__") (some (some (.builtin "object.__setattr__")))))
theorem fSCls_ok {K : PySem.W.Frag} {x : Str} (c : fSCls x K = true) : SlX.SCls K (He.ga K x) := by
  obtain ⟨h1, h⟩ := He.ba c
  obtain ⟨h2, h⟩ := He.ba h
  obtain ⟨h3, h4⟩ := He.ba h
  exact ⟨h1, h2, h3, of_decide_eq_true h4⟩
def fSlot (x f : Str) (i : Nat) : FactX := fun K => feq (PySem.W.findIn K (.ref (He.ga K x)) f) (some (some (.ref (He.ma K (He.ga K x) f)))) && (feq (PySem.W.specialIn K (.ref (He.ma K (He.ga K x) f)) "__get__") (some (some (.builtin "member_descriptor.__get__"))) &&
  (decide (PySem.W.takesIn K (.ref (He.ma K (He.ga K x) f)) = some true) && (decide (PySem.W.typeIn K (.ref (He.ma K (He.ga K x) f)) = some (.type "member_descriptor")) && (decide (PySem.W.slotIn K (He.ma K (He.ga K x) f) (He.ga K x) = some i) && decide (i < 1000)))))
theorem fSlot_ok {K : PySem.W.Frag} {x f : Str} {i : Nat} (c : fSlot x f i K = true) : SlX.Slot1 K (He.ga K x) f (He.ma K (He.ga K x) f) i := by
  obtain ⟨h1, h⟩ := He.ba c
  obtain ⟨h2, h⟩ := He.ba h
  obtain ⟨h3, h⟩ := He.ba h
  obtain ⟨h4, h⟩ := He.ba h
  obtain ⟨h5, h6⟩ := He.ba h
  exact ⟨of_decide_eq_true h1, of_decide_eq_true h2, of_decide_eq_true h3, of_decide_eq_true h4, of_decide_eq_true h5, of_decide_eq_true h6⟩
def fMeth (x m : Str) : FactX := fun K => feq (PySem.W.findIn K (.ref (He.ga K x)) m) (some (some (.ref (He.ma K (He.ga K x) m)))) && (PySem.W.isFn K (.ref (He.ma K (He.ga K x) m)) && PySem.W.keepIn K (.ref (He.ma K (He.ga K x) m)))
theorem fMeth_ok {K : PySem.W.Frag} {x m : Str} (c : fMeth x m K = true) : Meth K (He.ga K x) m (He.ma K (He.ga K x) m) := by
  obtain ⟨h1, h⟩ := He.ba c
  obtain ⟨h2, h3⟩ := He.ba h
  exact ⟨of_decide_eq_true h1, h2, h3⟩
def fMk (x : Str) : FactX := fun K => PySem.W.makesIn K (He.ga K x) && PySem.W.keepIn K (.ref (He.ga K x))
theorem fMk_ok {K : PySem.W.Frag} {x : Str} (c : fMk x K = true) (m : fMeth x "__init__" K = true) : Mk K (He.ga K x) (He.ma K (He.ga K x) "__init__") := by
  obtain ⟨h1, h2⟩ := He.ba c
  exact ⟨h1, (fMeth_ok m).at_, (fMeth_ok m).fn, h2⟩
def fProp (x f : Str) : FactX := fun K => feq (PySem.W.findIn K (.ref (He.ga K x)) f) (some (some (.ref (He.ma K (He.ga K x) f)))) && (feq (PySem.W.specialIn K (.ref (He.ma K (He.ga K x) f)) "__get__") (some (some (.builtin "property.__get__"))) &&
  (decide (PySem.W.takesIn K (.ref (He.ma K (He.ga K x) f)) = some true) && (match PySem.W.recIn K (He.ma K (He.ga K x) f) "property" with
    | some (.ref g :: _) => true
    | _ => false)))
structure PropX (K : PySem.W.Frag) (C : Addr) (f : Str) (p g : Addr) : Prop where
  at_ : PySem.W.findIn K (.ref C) f = some (some (.ref p))
  get : PySem.W.specialIn K (.ref p) "__get__" = some (some (.builtin "property.__get__"))
  tk : PySem.W.takesIn K (.ref p) = some true
  rc : ∃ rest, PySem.W.recIn K p "property" = some (.ref g :: rest)
theorem fProp_ok {K : PySem.W.Frag} {x f : Str} (c : fProp x f K = true) : PropX K (He.ga K x) f (He.ma K (He.ga K x) f) (pfAt K (He.ga K x) f) := by
  obtain ⟨h1, h⟩ := He.ba c
  obtain ⟨h2, h⟩ := He.ba h
  obtain ⟨h3, h4⟩ := He.ba h
  refine ⟨of_decide_eq_true h1, of_decide_eq_true h2, of_decide_eq_true h3, ?_⟩
  unfold pfAt
  split at h4
  · rename_i g rest e
    exact ⟨rest, by rw [e]⟩
  · cases h4
def fIsi (x : Str) : FactX := fun K => feq (PySem.W.findIn K (.ref (He.ga K x)) "__class__") (some (some (.builtin "object.__class__"))) && (feq (PySem.W.specialIn K (.builtin "object.__class__") "__get__") (some (some (.builtin "getset_descriptor.__get__"))) &&
  (decide (PySem.W.takesIn K (.builtin "object.__class__") = some true) && decide (PySem.W.mroIn K (He.ga K x) (.type "object") = some true)))
theorem fIsi_ok {K : PySem.W.Frag} {x : Str} (c : fIsi x K = true) : SlX.SIsi K (He.ga K x) := by
  obtain ⟨h1, h⟩ := He.ba c
  obtain ⟨h2, h⟩ := He.ba h
  obtain ⟨h3, h4⟩ := He.ba h
  exact ⟨of_decide_eq_true h1, of_decide_eq_true h2, of_decide_eq_true h3, of_decide_eq_true h4⟩
def fDeq (f : PySem.W.Frag → Option Bool) (b : Bool) : FactX := fun K => decide (f K = some b)
theorem fDeq_ok {K : PySem.W.Frag} {f : PySem.W.Frag → Option Bool} {b : Bool} (c : fDeq f b K = true) : f K = some b := of_decide_eq_true c
def fFeq (f : PySem.W.Frag → Option (Option Value)) (v : PySem.W.Frag → Option (Option Value)) : FactX := fun K => feq (f K) (v K)
theorem fFeq_ok {K : PySem.W.Frag} {f v : PySem.W.Frag → Option (Option Value)} (c : fFeq f v K = true) : f K = v K := of_decide_eq_true c
/-! ### the rule for a def of a table -/
section
variable {P : Program} {w : World} {K : PySem.W.Frag} {mg : Str → Option Value} {base : Heap} {T : Ctx}
theorem fn_okD {d : DefX} {fd : FuncData} {N ps : List Str} {k m : Nat} {F : FnSem} {fb : FS} (FF : DefOk K d fd) (S : FnScope N ps (defScope d.st)) (hm : N.length = m) (hF : F = fnF m fb)
    (hbody : ∀ (cdv : Value) (A : Around) (outer : List Env) (s : Shared) (H : Hp) (E : XK), Room k (A.deeper (envOfC d.qual (defScope d.st) s.heap.objs.size (d.at_ K) cdv)) →
      Passes (L2.CX P w) (cxOf (L2.CX P w) P w K mg base N d.qual (defScope d.st) (d.at_ K) cdv A outer s H E) E →
      Takes (cxOf (L2.CX P w) P w K mg base N d.qual (defScope d.st) (d.at_ K) cdv A outer s H E) (fun cls d _ H => E cls d H) →
      PassesOwn (model P w) (A.deeper (envOfC d.qual (defScope d.st) s.heap.objs.size (d.at_ K) cdv)) (envOfC d.qual (defScope d.st) s.heap.objs.size (d.at_ K) cdv) (cxOf (L2.CX P w) P w K mg base N d.qual (defScope d.st) (d.at_ K) cdv A outer s H E).xe →
      DSs T (cxOf (L2.CX P w) P w K mg base N d.qual (defScope d.st) (d.at_ K) cdv A outer s H E) E (defBody d.st) fb) :
    FnOk P w K mg base (L2.CX P w) (k + 1) (d.at_ K) fd ps (spF T ps.length F) := by
  subst hm
  refine FunD.ok (CX := L2.CX P w) FF S (fun vs H Q E h => ?_) (fun cdv A outer s H vs Q E hr h => ?_)
  · obtain ⟨I, ss, A, hl, _⟩ := h
    exact hl
  · obtain ⟨I, ss, A', hl, hg, ok, wn⟩ := h
    have tk : Takes (cxOf (L2.CX P w) P w K mg base N d.qual (defScope d.st) (d.at_ K) cdv A outer s H E) (fun cls d _ H => E cls d H) := takes_of rfl rfl rfl rfl
    have ps : Passes (L2.CX P w) (cxOf (L2.CX P w) P w K mg base N d.qual (defScope d.st) (d.at_ K) cdv A outer s H E) E := passes_call tk fun _ _ _ _ h => h
    refine ⟨_, hbody cdv A outer s H E hr ps tk (passes_of rfl), ?_⟩
    have hls : vs.length = ss.length := by simpa using ok.len
    refine ⟨ambOf H I ss A', A', I, ss.map some ++ List.replicate (N.length - ss.length) none, ?_, ?_⟩
    · have := ok.pad (N.length - ss.length)
      unfold L2.start
      rw [hls]
      exact this
    · rw [hF] at wn
      refine wn.bind.imp fun (l, δ1) e1 w1 => ?_
      replace w1 : Wants T (ambOf H I ss A') E (parD ss δ1 >>= fun p => match l with
        | .rt s => pure (s, p)
        | .nx => pure (.imm .non, p)
        | _ => .stuck) _ := w1
      cases q : parD ss δ1 with
      | stuck => rw [q] at w1; exact w1.elim
      | exc x => exact (parD_exc q).elim
      | ok p =>
        rw [q] at w1
        cases l with
        | nx => exact fun A2 I2 σ2 H2 ok2 => w1 .non A2 I2 σ2 H2 δ1 ok2 q (show Rep T I2 .non .non from .ofnon)
        | bk => exact w1.elim
        | ct => exact w1.elim
        | rt s => exact fun A2 I2 σ2 H2 v ok2 rr => w1 v A2 I2 σ2 H2 δ1 ok2 q rr
end
end DE
set_option Elab.async false
set_option linter.all false
set_option maxRecDepth 100000
set_option maxHeartbeats 2000000
namespace DE
open PySem PySem.Spec PyProof.Rows L2

/-! ### the facts of one program -/
structure Says (fa : List FactX) (fn : List DefX) (K : PySem.W.Frag) (mg : Str → Option Value) : Prop where
  c : SaysX fa fn K
  ns : ∀ x v, PySem.W.nsIn K mainGlobals x = some (some v) → mg x = some v
  no : ∀ x, PySem.W.nsIn K mainGlobals x = some none → mg x = none
section
variable {fa : List FactX} {fn : List DefX} {K : PySem.W.Frag} {mg : Str → Option Value}
theorem Says.of {h : Heap} (c : SaysX fa fn K) (X : K.In h) (G : h.Ns mainGlobals mg) : Says fa fn K mg := ⟨c, fun _ _ e => PySem.W.mg_of X G e, fun _ e => PySem.W.mg_none_of X G e⟩
theorem Says.glo (Z : Says fa fn K mg) (i : Nat) {x : Str} (h : fa[i]? = some (fGlo x) := by rfl) : mg x = some (.ref (He.ga K x)) := Z.ns _ _ (of_decide_eq_true (Z.c.fact i h))
theorem Says.free (Z : Says fa fn K mg) (i : Nat) {x : Str} (h : fa[i]? = some (fFree x) := by rfl) : mg x = none := Z.no _ (of_decide_eq_true (Z.c.fact i h))
theorem Says.int (Z : Says fa fn K mg) (i : Nat) {x : Str} {j : Int} (h : fa[i]? = some (fInt x j) := by rfl) : ∃ t, mg x = some (.int j t) := by
  have c : fInt x j K = true := Z.c.fact i h
  unfold fInt at c
  split at c
  · rename_i a t e
    have q : a = j := of_decide_eq_true c
    subst q
    exact ⟨t, Z.ns _ _ e⟩
  · cases c
theorem Says.scls (Z : Says fa fn K mg) (i : Nat) {x : Str} (h : fa[i]? = some (fSCls x) := by rfl) : SlX.SCls K (He.ga K x) := fSCls_ok (Z.c.fact i h)
theorem Says.slot (Z : Says fa fn K mg) (i : Nat) {x f : Str} {j : Nat} (h : fa[i]? = some (fSlot x f j) := by rfl) : SlX.Slot1 K (He.ga K x) f (He.ma K (He.ga K x) f) j := fSlot_ok (Z.c.fact i h)
theorem Says.meth (Z : Says fa fn K mg) (i : Nat) {x m : Str} (h : fa[i]? = some (fMeth x m) := by rfl) : Meth K (He.ga K x) m (He.ma K (He.ga K x) m) := fMeth_ok (Z.c.fact i h)
theorem Says.mkr (Z : Says fa fn K mg) (i j : Nat) {x : Str} (h : fa[i]? = some (fMk x) := by rfl) (h2 : fa[j]? = some (fMeth x "__init__") := by rfl) : Mk K (He.ga K x) (He.ma K (He.ga K x) "__init__") := fMk_ok (Z.c.fact i h) (Z.c.fact j h2)
theorem Says.prop (Z : Says fa fn K mg) (i : Nat) {x f : Str} (h : fa[i]? = some (fProp x f) := by rfl) : PropX K (He.ga K x) f (He.ma K (He.ga K x) f) (pfAt K (He.ga K x) f) := fProp_ok (Z.c.fact i h)
theorem Says.isi (Z : Says fa fn K mg) (i : Nat) {x : Str} (h : fa[i]? = some (fIsi x) := by rfl) : SlX.SIsi K (He.ga K x) := fIsi_ok (Z.c.fact i h)
def fKit (v : PySem.W.Frag → Value) (x : Str) (b : Bool) : FactX := fun K => decide (PySem.W.kitOne K (v K) (.ref (He.ga K x)) = some b)
theorem Says.kit (Z : Says fa fn K mg) (i : Nat) {v : PySem.W.Frag → Value} {x : Str} {b : Bool} (h : fa[i]? = some (fKit v x b) := by rfl) : PySem.W.kitOne K (v K) (.ref (He.ga K x)) = some b := of_decide_eq_true (Z.c.fact i h)
/-- == and != by the class's own __eq__ -/
def fEq (x : Str) : FactX := fun K => PySem.W.notFirst K (He.ga K x) (.ref (He.ga K x)) && (feq (PySem.W.findIn K (.ref (He.ga K x)) "__ne__") (some (some (.builtin "object.__ne__"))) && decide (PySem.W.mroIn K (He.ga K x) (.type "object") = some true))
theorem Says.eq (Z : Says fa fn K mg) (i j : Nat) {x : Str} (h : fa[i]? = some (fEq x) := by rfl) (h2 : fa[j]? = some (fMeth x "__eq__") := by rfl) :
    (PySem.W.findIn K (.ref (He.ga K x)) "__eq__" = some (some (.ref (He.ma K (He.ga K x) "__eq__"))) ∧ PySem.W.isFn K (.ref (He.ma K (He.ga K x) "__eq__")) = true ∧ PySem.W.notFirst K (He.ga K x) (.ref (He.ga K x)) = true) ∧
    PySem.W.findIn K (.ref (He.ga K x)) "__ne__" = some (some (.builtin "object.__ne__")) ∧ PySem.W.mroIn K (He.ga K x) (.type "object") = some true := by
  obtain ⟨c1, c⟩ := He.ba (Z.c.fact i h)
  obtain ⟨c2, c3⟩ := He.ba c
  have m := Z.meth j h2
  exact ⟨⟨m.at_, m.fn, c1⟩, of_decide_eq_true c2, of_decide_eq_true c3⟩
theorem Says.selfFirst (Z : Says fa fn K mg) (i : Nat) {x : Str} (h : fa[i]? = some (fun K => PySem.W.selfFirst K (He.ga K x)) := by rfl) : PySem.W.selfFirst K (He.ga K x) = true := Z.c.fact i h
theorem Says.tup0 (Z : Says fa fn K mg) (i : Nat) {a : PySem.W.Frag → Addr} (h : fa[i]? = some (fun K => tup0B K (a K)) := by rfl) (H : Hp) : SqT K H (a K) [] := by
  have c : tup0B K (a K) = true := Z.c.fact i h
  unfold tup0B at c
  split at c
  · rename_i t od its n sl e
    obtain ⟨c1, c2⟩ := He.ba c
    have h1 : t = "tuple" := of_decide_eq_true c1
    have h2 : its.toList = [] := of_decide_eq_true c2
    have h3 : its.size = 0 := by rw [← Array.length_toList, h2]; rfl
    exact .inr ⟨_, its, n, e, congrArg Value.type h1, rfl, by rw [h3]; exact Nat.zero_le _, by rw [h2]; exact .nil⟩
  · cases c
end
/-! ### isinstance by tables -/
def isiTab (tab : List (String × Bool)) (ct : List (Nat × Bool)) : TyD → Option Bool
  | .bi m => tab.lookup m
  | .cl c => ct.lookup c
theorem lookup_mem' {α β : Type} [BEq α] [LawfulBEq α] : ∀ {l : List (α × β)} {a : α} {b : β}, l.lookup a = some b → (a, b) ∈ l
  | [], _, _, h => by cases h
  | (x, y) :: l, a, b, h => by
    unfold List.lookup at h
    split at h
    · rename_i q
      cases h
      rw [eq_of_beq q]
      exact List.mem_cons_self
    · exact List.mem_cons_of_mem _ (lookup_mem' h)
theorem isG_tab {T : Ctx} {K : PySem.W.Frag} {u : Value} {tab : List (String × Bool)} {ct : List (Nat × Bool)} (h1 : ∀ p ∈ tab, PySem.W.kitOne K (.type p.1) u = some p.2) (h2 : ∀ p ∈ ct, PySem.W.kitOne K (.ref (T.cls p.1)) u = some p.2 ∧ SlX.SCls K (T.cls p.1) ∧ SlX.SIsi K (T.cls p.1)) : IsG T K u (isiTab tab ct) where
  an := fun t b h => by
    cases t with
    | bi m => exact h1 (m, b) (lookup_mem' h)
    | cl c => exact (h2 (c, b) (lookup_mem' h)).1
  cl := fun c b h => (h2 (c, b) (lookup_mem' h)).2
theorem noCX {X : Cx} (H : Hp) (s : Shared) (e : Value) (s' : Shared) (h : L2.CX X.prog X.w X.stack H s (fun _ _ _ => False) e s') : False := by
  obtain ⟨_, _, _, _, _, _, _, _, _, _, _, _, z⟩ := h
  exact z.elim
end DE
set_option Elab.async false
set_option linter.all false
set_option maxRecDepth 100000
set_option maxHeartbeats 2000000
namespace DE
open PySem PySem.Spec PyProof.Rows L2
theorem all1 {α : Type} {p : α → Prop} {a : α} (h : p a) : ∀ x ∈ [a], p x := fun x m => by
  rw [List.mem_singleton.mp m]
  exact h
theorem all7 {α : Type} {p : α → Prop} {a b c d e f g : α} (h1 : p a) (h2 : p b) (h3 : p c) (h4 : p d) (h5 : p e) (h6 : p f) (h7 : p g) : ∀ x ∈ [a, b, c, d, e, f, g], p x := fun x m => by
  simp only [List.mem_cons, List.not_mem_nil, or_false] at m
  rcases m with rfl | rfl | rfl | rfl | rfl | rfl | rfl <;> assumption
/-- what is asked of the law -/
theorem sp_law {T : Ctx} {K : PySem.W.Frag} {F : FnSem} (hT : T.K = K) (h : ∀ ns : List Int, ns.length ≤ 63 → ∃ p, F [.imm (.frl (ns.map D.int))] = .ok (.imm (.bl true), p)) (H : Hp) (a : Addr) (ns : List Int) (hl : ns.length ≤ 63) (hS : SqL K H a (ns.map V.int)) :
    spF T 1 F [.ref a] H (fun v _ => v = .bl true) fun _ _ _ => False := by
  subst hT
  have rs : ∀ ns : List Int, Reps T H (ns.map D.int) (ns.map V.int) := fun ns => by
    induction ns with
    | nil => exact .nil
    | cons n ns ih => exact .cons .ofint ih
  have r : Reps T H [.frl (ns.map D.int)] [.ref a] := .one (by simp only [Rep]; exact ⟨a, _, rfl, hS, rs ns⟩)
  have ok := ok_imm (.refl H) r (fun _ => (0, 0))
  obtain ⟨p, e⟩ := h ns hl
  refine ⟨H, [.imm (.frl (ns.map D.int))], fun _ => (0, 0), rfl, rfl, ok, ?_⟩
  rw [e]
  intro v A' I' σ' H' δ' _ _ r
  exact (show Rep T I' (.bl true) v from r).bl_inv
/-- the law's end, its context told by the world -/
theorem law_end {lw : PySem.W.OpenLaw} {nn kr : Nat} {qq : Program} {ll : List Str} {XP : (Str → Option Value) → Heap → Prop} {YY : World → Heap → Prop} {dd : DefRec} {xn : Str}
    (h1 : lw.most = some nn) (h2 : nn ≤ sizeLine) (h3 : dd.params.defaults = []) (h4 : Room kr callerA)
    (F : ∀ (wd : World) (mg : Str → Option Value) (fa : Addr) (hp : Heap), YY wd hp → hp.Ns mainGlobals mg → mg dd.name = some (.ref fa) →
      ∃ (K : PySem.W.Frag) (fd : FuncData) (sp : Sp), K.In hp ∧ (∀ (s : Shared) (u : Value), BindsTo s fd ⟨[u], []⟩ [(xn, u)]) ∧
        (∀ (H : Hp) (a : Addr) (ns : List Int), ns.length ≤ nn → SqL K H a (ns.map V.int) → sp [.ref a] H (fun v _ => v = .bl true) fun _ _ _ => False) ∧
        ∀ base : Heap, K.In base → base.Ns mainGlobals mg → FnOk lw.prog wd K mg base (L2.CX lw.prog wd) kr fa fd [xn] sp) :
    PySem.W.WalkO qq ll XP YY lw.row.toRowW dd [] (fun f vs => PySem.call f vs) :=
  Att.attach_call h1 h3 fun wd s0 s1 mg mb fa o pm cd doc a vs ns G Y ho hd hcd hmg hobj hints hlen hg =>
    match F wd mg fa _ Y G.T.g hmg with
    | ⟨K, fd, sp, KX, hb, hsp, hF⟩ => law_call KX G.T.g G.T.b G.T.builtins G.T.nolimit hg hobj hints (Nat.le_trans hlen h2) h4 hF hb (fun H _ hS => hsp H a ns hlen hS) fun H e s' hz => by
      obtain ⟨_, _, _, _, _, _, _, _, _, _, _, _, z⟩ := hz
      exact z.elim
end DE
set_option Elab.async false
set_option linter.all false
set_option maxRecDepth 100000
set_option maxHeartbeats 2000000
namespace DE
open PySem PySem.Spec PyProof.Rows L2 ItX

/-! ### a zip kept in a name -/
section
variable {X : Cx} {pins : List (Addr × Obj)} {σ : L2.St} {H : Hp} {s : Shared} {b : Addr}
/-- a young object of ours is tracked from now on -/
theorem inv_track (I : Inv X pins σ H s) {φ : Heap → Prop} (hf : FpOk X pins H b) (hn : X.s_0.heap.objs.size ≤ b) (hp : φ s.heap) (hex : ∃ o, s.heap.get? b = some o)
    (st : ∀ h1 h2 : Heap, φ h1 → (∀ o, h1.get? b = some o → h2.get? b = some o) → φ h2) : Inv X pins σ (upd H b (.ext φ)) s := by
  obtain ⟨f1, f2, f3, f4, f5, f6⟩ := hf
  have old : ∀ c o, X.s_0.heap.get? c = some o → c ≠ b := fun c o e z => by
    rw [z] at e
    exact absurd (Nat.lt_of_lt_of_le (Heap.lt_size e) hn) (Nat.lt_irrefl _)
  have stay : ∀ c u, H c = some u → upd H b (.ext φ) c = some u := fun c u e => by
    rw [upd_ne (ne_of_none e f1)]
    exact e
  exact {
    ok := I.ok, os := I.os, bare := I.bare
    base := ⟨I.base.keep, I.base.slot, fun c o e n x => by rw [upd_ne (old c o e)]; exact I.base.free c o e n x, I.base.there, fun c xs e => stay _ _ (I.base.tups c xs e), fun c o u e => stay _ _ (I.base.frzs c o u e), fun c ps e => by
      obtain ⟨m, z⟩ := I.base.tbls c ps e
      exact ⟨m, stay _ _ z⟩⟩
    loc := I.loc, cell := I.cell
    free := by rw [upd_ne (Ne.symm f2)]; exact I.free
    freeC := fun x c e => by rw [upd_ne (f5 x c e)]; exact I.freeC x c e
    pin := fun p hp => by
      obtain ⟨q1, q2, q3, q4, q5⟩ := I.pin p hp
      exact ⟨q1, by rw [upd_ne (f6 p hp)]; exact q2, q3, q4, q5⟩
    hok := fun a o e => by
      by_cases ha : a = b
      · subst ha
        rw [upd_same] at e
        cases e
        exact ⟨hp, hex, st⟩
      · rw [upd_ne ha] at e
        exact (I.hok a o e).stay (fun _ _ _ z => z) (fun c z => stay _ _ z) fun c xs z => stay _ _ z
    len := I.len }
end
/-- a comprehension over what is at hand -/
theorem lc_body {T : Ctx} {E : XK} {t : Tg} {c : FT} {f : FE} {vs : List Nat} (hv : ∀ i ∈ t.ix, i ∈ vs) {M : Amb} {A : Pl} {I H I1 H1 : Hp} {σ : L2.St} {δ δ1 : Dl} {J : It} {items : List D} {src : Src} {Q : VK}
    (ok1 : Ok T M A I1 σ H1 δ1) (st1 : Stp A δ I H δ1 I1 H1) (so : srcOk items src δ1) (wk : WalkD T J items (SrcG T A I1 H1 items src))
    (w1 : Wants T M E (if lim items.length then (lockD src δ1 >>= fun δ2 => wipeD vs δ2 >>= fun δ3 => compL t c f vs items δ3 >>= fun z => pure (D.lst z.1, backD δ1 vs (unlockD src z.2))) else Out.stuck) (postN T M A δ I H σ Q)) (H0 : Hp) :
    tLc (fun _ _ R => R J H1) (tG T t) (tT T E0' c) (tE T E0' f) vs σ H0 Q := by
  intro Da hD
  split at w1
  case isFalse => exact w1.elim
  case isTrue hlim =>
    cases q : lockD src δ1 with
    | stuck => rw [q] at w1; exact w1.elim
    | exc x => exact (lockD_exc q).elim
    | ok δ2 =>
      rw [q, ok_bind] at w1
      cases q2 : wipeD vs δ2 with
      | stuck => rw [q2] at w1; exact w1.elim
      | exc x => exact (wipeD_exc q2).elim
      | ok δ3 =>
        rw [q2, ok_bind] at w1
        have apD : Apart M A δ1 I1 (Da, Da) := ok1.fresh hD hD
        refine loop_core (acc0 := []) hv wk (fun j hj => by
          subst hj
          have : ∃ d, δ1[j]? = some (some (.own d)) ∨ δ1[j]? = some (some (.lck d)) := so.elim (fun z => ⟨_, .inl z⟩) fun z => ⟨_, .inr z⟩
          obtain ⟨d, hd⟩ := this
          have ow : OwnRep T I1 H1 d (A j) := by
            rcases hd with hd | hd
            · exact (ok1.sl j _ hd).2.1
            · exact (ok1.sl j _ hd).2.1
          obtain ⟨⟨u, hu⟩, _⟩ := ow.there
          rw [upd_ne (ne_of_none hu hD)]) (ok1.laidD hD) so q q2 apD upd_same .nil (by simpa using hlim) w1.bind ?_
        intro es δ' I' H' xs k okU apU hD' ra _ hno st
        have hI : Same I1 I' := st.gro
        obtain ⟨okB, mB⟩ := ok1.back (vs := vs) hI okU hno
        have hDs : H Da = none := by
          cases z : H Da with
          | none => rfl
          | some o =>
            obtain ⟨o', z'⟩ := st1.dom Da o z
            rw [hD] at z'
            cases z'
        have st2 : StpD Da A δ1 I1 H1 (backD δ1 vs (unlockD src δ')) I' H' := (StpD.trans (⟨.refl _, fun b o e => .inl e, fun b o n e _ => by rw [upd_ne n]; exact e, fun _ h => h, fun b o e => ⟨o, by rw [upd_ne (ne_of_none e hD)]; exact e⟩⟩ : StpD Da A δ1 I1 H1 δ1 I1 (upd H1 Da (.lst []))) st).mono mB
        exact k (Da, Da) I' H' okB (st1.trans (st2.stp hD)) ⟨rfl, xs, hD', by simpa using ra⟩ ⟨apU.i, apU.h, fun b z i hi => apU.s b z i (mB i hi), apU.x⟩ hDs hDs

/-! ### the zip -/
theorem upd_free {H : Hp} {b c : Nat} {o : HO} (h : c < b ∨ b < c) (n : H c = none) : upd H b o c = none := by
  rw [upd_ne (fun e => by subst e; omega)]
  exact n
def zipH (H : Hp) (z TI TO i1 i2 : Addr) (c1 c2 : Sc) : Hp := upd (upd (upd (upd (upd H i2 (.ext (c2.it i2 0))) i1 (.ext (c1.it i1 0))) TO (.ext fun h => ∃ a1 a2, IsTupOf2 h TO a1 a2)) TI (.ext fun h => IsTupOf2 h TI (.ref i1) (.ref i2))) z (.ext fun h => IsZip h z TI TO .none)
/-- the items that a zip gives out -/
def zip2F (fa : FA) : Dl → Out (List D × Dl) := fun δ => do
  let (rs, δ1) ← fa δ
  match rs with
  | [r, r'] => do
    let (d, δ2) ← takeR r δ1
    let (d', δ3) ← takeR r' δ2
    let its ← ofO (itemsD d)
    let its' ← ofO (itemsD d')
    pure (pairsD (its.zip its'), δ3)
  | _ => .stuck
/-- zip(a, b), to be kept -/
def tZipV (T : Ctx) (E : XK) (K : PySem.W.Frag) (n : Nat) (fa : FA) : TE := fun σ H Q => ∃ M A I δ, Ok T M A I σ H δ ∧ Wants T M E (zip2F fa δ) fun (items, δ') => ∀ z TI TO i1 i2 (c1 c2 : Sc) I' H', Ok T M A I' σ H' δ' → Stp A δ I H δ' I' H' →
  [z, TI, TO, i1, i2].Nodup → (∀ b ∈ [z, TI, TO, i1, i2], n ≤ b ∧ H' b = none) → WalkD T (ItP c1.nth c2.nth (min c1.len c2.len) (fun H => c1.okH K H ∧ c2.okH K H)) items (SrcG T A I' H' items none) → (∀ i x y d, items[i]? = some d → c1.nth i = some x → c2.nth i = some y → ∃ a b, d = .tup [a, b] ∧ Rep T I' a x ∧ Rep T I' b y) → Q (.ref z) (zipH H' z TI TO i1 i2 c1 c2)
section
variable {T : Ctx} {X : Cx} {E : XK} {e e2 : Expr} {fa : FA} {p pos tpos : Pos} {elts : List Expr} {kk : Nat}
theorem pe_zipV (ha : DA T X E [e, e2] fa) (hm : X.mg "zip" = none) (hg : Gl X "zip" := by rfl) (hK : T.K = X.K := by rfl) (hs : starEach [e, e2] X.env = [(false, eval e X.env), (false, eval e2 X.env)] := by rfl) (hs2 : starEach [e2] X.env = [(false, eval e2 X.env)] := by rfl) :
    PE X (.Call (.Name "zip" p) [e, e2] [] pos) (tZipV T E X.K X.s_0.heap.objs.size fa) := by
  refine ⟨fun pins s σ H R I h => ?_⟩
  obtain ⟨M, A, I0, δ, ok, w⟩ := h
  refine Call_ (ld_blt I hg hm boot_zip (PyProof.Rows.callWith_type1 (thn (ha.run pos pins s σ H (fun vs H1 => ∃ rs δ1 I1, Ok T M A I1 σ H1 δ1 ∧ Stp A δ I0 H δ1 I1 H1 ∧ RepRs T I1 σ rs vs ∧ Wants T M E (match rs with
      | [r, r'] => takeR r δ1 >>= fun z => takeR r' z.2 >>= fun z' => ofO (itemsD z.1) >>= fun its => ofO (itemsD z'.1) >>= fun its' => pure (pairsD (its.zip its'), z'.2)
      | _ => .stuck) (fun y => ∀ z TI TO i1 i2 (c1 c2 : Sc) I' H', Ok T M A I' σ H' y.2 → Stp A δ I0 H y.2 I' H' →
  [z, TI, TO, i1, i2].Nodup → (∀ b ∈ [z, TI, TO, i1, i2], X.s_0.heap.objs.size ≤ b ∧ H' b = none) → WalkD T (ItP c1.nth c2.nth (min c1.len c2.len) (fun H => c1.okH X.K H ∧ c2.okH X.K H)) y.1 (SrcG T A I' H' y.1 none) → (∀ i x y' d, y.1[i]? = some d → c1.nth i = some x → c2.nth i = some y' → ∃ a b, d = .tup [a, b] ∧ Rep T I' a x ∧ Rep T I' b y') → R (.ref z) (zipH H' z TI TO i1 i2 c1 c2))) I
    ⟨M, A, I0, δ, ok, w.bind.imp fun z e1 w1 v I1 H1 ok1 st1 rr => ⟨z.1, z.2, I1, ok1, st1, rr, w1⟩⟩) fun us s1 hv => ?_) (by rw [hs, hs2]) (by rw [hs2]; rfl)))
  obtain ⟨vs, H1, J1, rv, rs, δ1, I1, ok1, st1, rr, w1⟩ := hv
  cases rs with
  | nil => exact w1.elim
  | cons r rs =>
    cases rs with
    | nil => exact w1.elim
    | cons r' rs =>
      cases rs with
      | cons _ _ => exact w1.elim
      | nil =>
        obtain ⟨v, _, rfl, r1, v', _, rfl, r1', e0⟩ := rr
        have e0 : _ = [] := e0
        subst e0
        obtain ⟨u, u', rfl, ru, ru'⟩ := vals2 rv
        replace w1 : Wants T M E (takeR r δ1 >>= fun z => takeR r' z.2 >>= fun z' => ofO (itemsD z.1) >>= fun its => ofO (itemsD z'.1) >>= fun its' => pure (pairsD (its.zip its'), z'.2)) _ := w1
        cases q1 : takeR r δ1 with
        | stuck => rw [q1] at w1; exact w1.elim
        | exc x => exact (takeR_exc q1).elim
        | ok z =>
          obtain ⟨d, δ2⟩ := z
          rw [q1, ok_bind] at w1
          cases q1' : takeR r' δ2 with
          | stuck => simp only [q1'] at w1; exact w1.elim
          | exc x => exact (takeR_exc q1').elim
          | ok z =>
            obtain ⟨d', δ3⟩ := z
            simp only [q1', ok_bind] at w1
            cases q2 : itemsD d with
            | none => simp only [q2] at w1; exact w1.elim
            | some its =>
              cases q2' : itemsD d' with
              | none => simp only [q2, q2', ofO_some, ok_bind] at w1; exact w1.elim
              | some its' =>
                simp only [q2, q2', ofO_some, ok_bind] at w1
                obtain ⟨I2, ok2, st2, rd⟩ := ok1.hand r1 q1
                obtain ⟨I3, ok3, st3, rd'⟩ := ok2.hand (r1'.mono st2.gro) q1'
                obtain ⟨sc, hval, S⟩ := sc_imm hK ok3 (rd.mono st3.gro) ru q2
                obtain ⟨sc', hval', S'⟩ := sc_imm hK ok3 rd' ru' q2'
                subst hval
                subst hval'
                obtain ⟨Hb, B, hb⟩ := Sc.begins J1 (S.ok I3 H1 ok3.sub (.refl _))
                obtain ⟨Hb', B', hb'⟩ := Sc.begins J1 (S'.ok I3 H1 ok3.sub (.refl _))
                refine zip_begins2 B B' hb hb' fun h' hz hT hO ho1 ho2 hsz hk => ?_
                obtain ⟨n0, en⟩ : ∃ n0, n0 = s1.heap.objs.size := ⟨_, rfl⟩
                have J2 : Inv X pins σ H1 { s1 with heap := h' } := J1.kept (t' := s1.toks) hk
                have sn : X.s_0.heap.objs.size ≤ n0 := by rw [en]; exact J1.sz
                have fpk : ∀ b (Hx : Hp), n0 ≤ b → Hx b = none → FpOk X pins Hx b := fun b Hx hb hn => J1.fpOk (by rw [← en]; exact hb) hn
                have free : ∀ b, n0 ≤ b → H1 b = none := fun b hb => J1.hok.fresh (by rw [← en]; exact hb)
                rw [← en] at hz hT hO ho1 ho2 ⊢
                have K1 := inv_track J2 (b := n0 + 1) (φ := sc'.it (n0 + 1) 0) (fpk _ _ (by omega) (free _ (by omega))) (by omega) (Sc.it_new ho2) ⟨_, ho2⟩ fun h1 h2 p k => Sc.it_keep p k
                have K2 := inv_track K1 (b := n0) (φ := sc.it n0 0) (fpk _ _ (by omega) (upd_free (by omega) (free _ (by omega)))) (by omega) (Sc.it_new ho1) ⟨_, ho1⟩ fun h1 h2 p k => Sc.it_keep p k
                have K3 := inv_track K2 (b := n0 + 3) (φ := fun h => ∃ a1 a2, IsTupOf2 h (n0 + 3) a1 a2) (fpk _ _ (by omega) (upd_free (by omega) (upd_free (by omega) (free _ (by omega))))) (by omega) ⟨_, _, hO⟩ ⟨_, hO⟩ fun h1 h2 ⟨a1, a2, p⟩ k => ⟨a1, a2, k _ p⟩
                have K4 := inv_track K3 (b := n0 + 2) (φ := fun h => IsTupOf2 h (n0 + 2) (.ref n0) (.ref (n0 + 1))) (fpk _ _ (by omega) (upd_free (by omega) (upd_free (by omega) (upd_free (by omega) (free _ (by omega)))))) (by omega) hT ⟨_, hT⟩ fun h1 h2 p k => k _ p
                have K5 := inv_track K4 (b := n0 + 4) (φ := fun h => IsZip h (n0 + 4) (n0 + 2) (n0 + 3) .none) (fpk _ _ (by omega) (upd_free (by omega) (upd_free (by omega) (upd_free (by omega) (upd_free (by omega) (free _ (by omega))))))) (by omega) hz ⟨_, hz⟩ fun h1 h2 p k => k _ p
                refine ⟨.ref (n0 + 4), _, K5, rfl, w1 (n0 + 4) (n0 + 2) (n0 + 3) n0 (n0 + 1) sc sc' I3 H1 ok3 ((st1.trans st2).trans st3) (by simp) (fun b hb => ?_) ?_ ?_⟩
                · have hle : n0 ≤ b := by
                    simp only [List.mem_cons, List.not_mem_nil, or_false] at hb
                    omega
                  exact ⟨Nat.le_trans sn hle, free b hle⟩
                · have hl : min sc.len sc'.len = (its.zip its').length := by rw [List.length_zip, S.len, S'.len]
                  rw [hl]
                  refine walk_pair (fun i x hi e => ?_) (fun i x hi e => ?_) fun I4 H4 s g => ⟨S.ok I4 H4 s g, S'.ok I4 H4 s g⟩
                  · obtain ⟨d1, h1, h2⟩ := S.nth i x e
                    have hz := List.getElem?_eq_getElem hi
                    refine ⟨_, hz, ?_⟩
                    rw [List.length_zip] at hi
                    rw [List.getElem_zip]
                    have : its[i]? = some (its[i]'(by omega)) := List.getElem?_eq_getElem _
                    rw [h1] at this
                    cases this
                    exact h2
                  · obtain ⟨d1, h1, h2⟩ := S'.nth i x e
                    have hz := List.getElem?_eq_getElem hi
                    refine ⟨_, hz, ?_⟩
                    rw [List.length_zip] at hi
                    rw [List.getElem_zip]
                    have : its'[i]? = some (its'[i]'(by omega)) := List.getElem?_eq_getElem _
                    rw [h1] at this
                    cases this
                    exact h2
                · intro i x y d hd hx hy
                  obtain ⟨d1, h1, r1⟩ := S.nth i x hx
                  obtain ⟨d2, h2, r2⟩ := S'.nth i y hy
                  refine ⟨d1, d2, ?_, r1, r2⟩
                  have hz2 : (its.zip its')[i]? = some (d1, d2) := List.getElem?_zip_eq_some.mpr ⟨h1, h2⟩
                  unfold pairsD at hd
                  rw [List.getElem?_map, hz2] at hd
                  exact (Option.some.inj hd).symm

end

theorem fp_of {X : Cx} {pins : List (Addr × Obj)} {σ : L2.St} {H H0 : Hp} {s : Shared} {b : Addr} {u : HO} (I : Inv X pins σ H s) (h : H b = some u) (hn : X.s_0.heap.objs.size ≤ b) (h0 : H0 b = none) : FpOk X pins H0 b := ⟨h0, (inv_fp I h hn).2⟩
/-- for .. in x, x a name that holds a zip -/
def iZip (K : PySem.W.Frag) (n i : Nat) : TI := fun σ H R => ∃ z TI TO i1 i2 c1 c2 H0, σ[i]? = some (some (.ref z)) ∧ [z, TI, TO, i1, i2].Nodup ∧ (∀ b ∈ [z, TI, TO, i1, i2], n ≤ b ∧ H0 b = none) ∧ H = zipH H0 z TI TO i1 i2 c1 c2 ∧
  R (ItP c1.nth c2.nth (min c1.len c2.len) (fun H => c1.okH K H ∧ c2.okH K H)) H0
section
variable {X : Cx} {k : Nat} {x : Str} {p tpos : Pos} {elts : List Expr} {kk : Nat}
theorem pi_zipn (hN : X.N[k]? = some x) (hv : Vis X.env.scope x) (hd : (x == ("__debug__" : Str)) = false := by decide) (hcd : (x == ("__classdict__" : Str)) = false := by decide) : PI X (.Tuple elts kk tpos) (.Name x p) (iZip X.K X.s_0.heap.objs.size k) := by
  refine ⟨fun pins s σ H R I h => ?_⟩
  obtain ⟨z, TI, TO, i1, i2, c1, c2, H0, hs, hnd, hb, rfl, q⟩ := h
  refine thn ((pe_var (pos := p) (i := k) hN hv hd hcd).run pins s σ _ (fun v H1 => v = .ref z ∧ H1 = zipH H0 z TI TO i1 i2 c1 c2) I ⟨.ref z, hs, rfl, rfl⟩) fun u s1 ⟨v, H1, I1, r1, ev, eH⟩ => ?_
  subst ev
  rw [eH] at I1
  cases r1
  have hnd' := hnd
  simp only [List.nodup_cons, List.mem_cons, List.not_mem_nil, or_false, not_or, List.nodup_nil, and_true, not_false_eq_true] at hnd
  obtain ⟨⟨n1, n2, n3, n4⟩, ⟨n5, n6, n7⟩, ⟨n8, n9⟩, n10⟩ := hnd
  have f1 := (hb z (by simp)).2
  have f2 := (hb TI (by simp)).2
  have f3 := (hb TO (by simp)).2
  have f4 := (hb i1 (by simp)).2
  have f5 := (hb i2 (by simp)).2
  have e1 : zipH H0 z TI TO i1 i2 c1 c2 z = some (.ext fun h => IsZip h z TI TO .none) := upd_same
  have e2 : zipH H0 z TI TO i1 i2 c1 c2 TI = some (.ext fun h => IsTupOf2 h TI (.ref i1) (.ref i2)) := by
    unfold zipH
    rw [upd_ne (Ne.symm n1), upd_same]
  have e3 : zipH H0 z TI TO i1 i2 c1 c2 TO = some (.ext fun h => ∃ a1 a2, IsTupOf2 h TO a1 a2) := by
    unfold zipH
    rw [upd_ne (Ne.symm n2), upd_ne (Ne.symm n5), upd_same]
  have e4 : zipH H0 z TI TO i1 i2 c1 c2 i1 = some (.ext (c1.it i1 0)) := by
    unfold zipH
    rw [upd_ne (Ne.symm n3), upd_ne (Ne.symm n6), upd_ne (Ne.symm n8), upd_same]
  have e5 : zipH H0 z TI TO i1 i2 c1 c2 i2 = some (.ext (c2.it i2 0)) := by
    unfold zipH
    rw [upd_ne (Ne.symm n4), upd_ne (Ne.symm n7), upd_ne (Ne.symm n9), upd_ne (Ne.symm n10), upd_same]
  have s1' := (I1.hok _ _ e1).1
  have s2' := (I1.hok _ _ e2).1
  have s3' := (I1.hok _ _ e3).1
  have s4' := (I1.hok _ _ e4).1
  have s5' := (I1.hok _ _ e5).1
  have J1 := inv_drop I1 e1
  unfold zipH at J1
  rw [dropH_upd (by rw [upd_ne n1, upd_ne n2, upd_ne n3, upd_ne n4]; exact f1)] at J1
  have J2 := inv_drop J1 upd_same
  rw [dropH_upd (by rw [upd_ne n5, upd_ne n6, upd_ne n7]; exact f2)] at J2
  have J3 := inv_drop J2 upd_same
  rw [dropH_upd (by rw [upd_ne n8, upd_ne n9]; exact f3)] at J3
  have J4 := inv_drop J3 upd_same
  rw [dropH_upd (by rw [upd_ne n10]; exact f4)] at J4
  have J5 := inv_drop J4 upd_same
  rw [dropH_upd f5] at J5
  have st := turn_zipS (P := X.prog) (w := X.w) (K := X.K) (elts := elts) (kk := kk) (tpos := tpos) c1 c2 z TI TO i1 i2 hnd'
  refine wpAny_pyIter_zip s1' ?_
  refine ⟨z, [z, TI, TO, i1, i2], _, _, H0, rfl, J5, st, ⟨s1', s2', s3', s4', s5'⟩, fun b hbm => ?_, q⟩
  have hh := hb b hbm
  have hm : ∃ u, zipH H0 z TI TO i1 i2 c1 c2 b = some u := by
    simp only [List.mem_cons, List.not_mem_nil, or_false] at hbm
    rcases hbm with rfl | rfl | rfl | rfl | rfl
    · exact ⟨_, e1⟩
    · exact ⟨_, e2⟩
    · exact ⟨_, e3⟩
    · exact ⟨_, e4⟩
    · exact ⟨_, e5⟩
  obtain ⟨u, hu⟩ := hm
  exact fp_of I1 hu hh.1 hh.2
end
theorem Ok.setNo {T : Ctx} {M : Amb} {A : Pl} {I H : Hp} {σ : L2.St} {δ : Dl} (x : Ok T M A I σ H δ) {i : Nat} {v : Option V} (hf : freeAt δ i = true) : Ok T M A I (σ.set i v) H (δ.set i none) := by
  have up : ∀ j s, (δ.set i none)[j]? = some (some s) → j ≠ i ∧ δ[j]? = some (some s) := fun j s e => by
    by_cases hj : j = i
    · subst hj
      rw [List.getElem?_set_self (freeAt_lt hf)] at e
      cases e
    · rw [List.getElem?_set_ne (Ne.symm hj)] at e
      exact ⟨hj, e⟩
  have mu : ∀ j, mutAt (δ.set i none) j → mutAt δ j := fun j ⟨s, e, m⟩ => ⟨s, (up j s e).2, m⟩
  refine ⟨x.sub, x.gro, x.fre, x.kee, by simp [x.len], fun j s e => ?_, fun a b c h1 h2 => x.inj a b c (mu _ h1) (mu _ h2), fun q hq => ?_, fun q hq => ?_⟩
  · obtain ⟨hj, e⟩ := up j s e
    have z := x.sl j s e
    rw [List.getElem?_set_ne (Ne.symm hj)]
    exact z
  · obtain ⟨⟨d, e⟩, ea⟩ := x.prs q hq
    have hj : q.1 ≠ i := fun w => freeAt_par hf (by rw [← w]; exact e)
    exact ⟨⟨d, by rw [List.getElem?_set_ne (Ne.symm hj)]; exact e⟩, ea⟩
  · obtain ⟨e, ea⟩ := x.lks q hq
    have hj : q.1 ≠ i := fun w => freeAt_lck hf (by rw [← w]; exact e)
    exact ⟨by rw [List.getElem?_set_ne (Ne.symm hj)]; exact e, ea⟩

/-- x = zip(a, b); return all([.. for .. in x]) -/
def zipAllS (i : Nat) (fa : FA) (t : Tg) (f : FE) (vs : List Nat) : FS := fun δ => do
  let (items, δ1) ← zip2F fa δ
  if freeAt δ1 i then
    if lim items.length then do
      let δ3 ← wipeD vs (δ1.set i none)
      let (es, δ4) ← compL t yesT f vs items δ3
      let b ← ofO (allD [.lst es])
      pure (.rt (.imm b), backD (δ1.set i none) vs δ4)
    else .stuck
  else .stuck
section
variable {T : Ctx} {X : Cx} {E : XK} {tg elt a b : Expr} {fa : FA} {t : Tg} {f : FE} {scope : Scope} {own : List (Str × Nat)} {p1 p2 p3 p4 p5 p6 p7 p8 p8' tpos : Pos} {elts : List Expr} {kk i : Nat} {x : Str}
theorem dss_zipall (hN : X.N.Nodup) (ha : DA T X E [a, b] fa) (hm : X.mg "zip" = none) (hm2 : X.mg "all" = none) (ok : BlkOk X.N X.env.scope scope own) (hg' : ForBlk X scope fun X => DG T X (.Tuple elts kk tpos) t) (he : ForBlk X scope fun X => DE T X E0' elt f)
    (hi : X.N[i]? = some x := by rfl) (hx : Loc X.env.scope x := by first | exact Or.inl rfl | exact Or.inr rfl) (hxv : Vis X.env.scope x := by first | exact Or.inl rfl | exact Or.inr (Or.inl rfl) | exact Or.inr (Or.inr rfl)) (hK : T.K = X.K := by rfl) (hc : X.calm = true := by rfl)
    (hg : Gl X "zip" := by rfl) (hg2 : Gl X "all" := by rfl) (hv : ∀ i ∈ t.ix, i ∈ own.map (·.2) := by decide) (hd : (x == ("__debug__" : Str)) = false := by decide) (hcd : (x == ("__classdict__" : Str)) = false := by decide)
    (hs : starEach [a, b] X.env = [(false, eval a X.env), (false, eval b X.env)] := by rfl) (hs2 : starEach [b] X.env = [(false, eval b X.env)] := by rfl) (hsw : swapsWith (.Call (.Name "zip" p2) [a, b] [] p3) (some (.Name x p1)) p4.line X.env = pure false := by rfl)
    (hf : X.fn x = true ∨ X.env.scope.names.lookup x = some .local := by first | exact .inl rfl | exact .inr rfl) (hs3 : ∀ z, foldedSetIterable (.Name x p6) X.env z = pure z := by intro _; rfl) (hs4 : starEach [.ListComp elt [⟨.Tuple elts kk tpos, .Name x p6, [], 0⟩] scope p7] X.env = (false, eval (.ListComp elt [⟨.Tuple elts kk tpos, .Name x p6, [], 0⟩] scope p7) X.env) :: starEach [] X.env := by rfl) :
    DSs T X E [.Assign [.Name x p1] (.Call (.Name "zip" p2) [a, b] [] p3) p4, .Return (some (.Call (.Name "all" p5) [.ListComp elt [⟨.Tuple elts kk tpos, .Name x p6, [], 0⟩] scope p7] [] p8)) p8'] (zipAllS i fa t f (own.map (·.2))) := by
  refine PSs.of (pss_cons (ps_set hN hi hx (pe_zipV ha hm hg hK hs hs2) hsw hf) (pss_one (ps_ret (pe_callB (cr_all hc) hg2 hm2 (by rfl) (pa_cons (pe_lc hc hN (pi_zipn hi hxv hd hcd) ok hg' (fun _ _ _ _ _ => dts_nil (T := T) (E := E0')) he hs3) pa_nil hs4) (by decide) (by decide) hs4 (by rfl))))) fun D σ H ⟨M, A, I, δ, okk, w⟩ => ?_
  refine ⟨M, A, I, δ, okk, w.bind.imp fun (items, δ1) e1 w1 => ?_⟩
  intro z TI TO i1 i2 c1 c2 I1 H1 ok1 st1 hnd hb wk _
  replace w1 : Wants T M E (if freeAt δ1 i then (if lim items.length then (wipeD (own.map (·.2)) (δ1.set i none) >>= fun δ3 => compL t yesT f (own.map (·.2)) items δ3 >>= fun y => ofO (allD [.lst y.1]) >>= fun b => pure (Fl.rt (.imm b), backD (δ1.set i none) (own.map (·.2)) y.2)) else .stuck) else .stuck) _ := w1
  split at w1
  case isFalse => exact w1.elim
  case isTrue hfr =>
  split at w1
  case isFalse => exact w1.elim
  case isTrue hlm =>
  have ok2 := ok1.setNo (v := some (.ref z)) hfr
  have st2 : Stp A δ I H (δ1.set i none) I1 H1 := ⟨st1.gro, st1.fre, st1.kee, fun j ⟨s, e, m⟩ => st1.mon j ⟨s, by
    by_cases hj : j = i
    · subst hj
      rw [List.getElem?_set_self (freeAt_lt hfr)] at e
      cases e
    · rw [List.getElem?_set_ne (Ne.symm hj)] at e
      exact e, m⟩, st1.dom⟩
  refine ⟨z, TI, TO, i1, i2, c1, c2, H1, ?_, hnd, hb, rfl, ?_⟩
  · show (σ.set i (some (.ref z)))[i]? = _
    rw [List.getElem?_set_self (by rw [ok1.len]; exact freeAt_lt hfr)]
  refine lc_body (E := E) (src := none) (Q := fun v H' => rAll X.K [v] H' D.rt) hv ok2 st2 trivial wk ?_ H1
  rw [if_pos hlm]
  show Wants T M E (wipeD (own.map (·.2)) (δ1.set i none) >>= fun δ3 => compL t yesT f (own.map (·.2)) items δ3 >>= fun y => pure (DE.D.lst y.1, backD (δ1.set i none) (own.map (·.2)) y.2)) _
  cases q2 : wipeD (own.map (·.2)) (δ1.set i none) with
  | stuck => rw [q2] at w1; exact w1.elim
  | exc x => exact (wipeD_exc q2).elim
  | ok δ3 =>
    rw [q2, ok_bind] at w1
    rw [ok_bind]
    cases q3 : compL t yesT f (own.map (·.2)) items δ3 with
    | stuck => rw [q3] at w1; exact w1.elim
    | exc y => rw [q3] at w1; exact w1
    | ok y =>
      rw [q3, ok_bind] at w1
      rw [ok_bind]
      cases q4 : allD [.lst y.1] with
      | none => rw [q4] at w1; exact w1.elim
      | some b =>
        rw [q4] at w1
        intro p I' H' ok' st' ow ap n1 n2
        simp only [allD, Option.map_eq_some_iff] at q4
        obtain ⟨bs, e1, rfl⟩ := q4
        have eb := bls_map e1
        obtain ⟨ep, xs, hp, r⟩ := ow
        rw [eb] at r
        have := reps_bls r
        subst this
        exact ⟨p.1, bs, rfl, .of hp, w1 A I' _ H' _ ok' (show Rep T I' (.bl _) _ from .ofbl)⟩
end
end DE
set_option Elab.async false
set_option linter.all false
set_option maxRecDepth 100000
set_option maxHeartbeats 2000000
namespace PySem
open PySem.W
/-! ### a zip whose tuple is still out, over what is drawn -/
section
variable {prog : Program} {w : World} {A : Around} {E : Value → Shared → Prop} {s : Shared} {z TI TO T i1 i2 : Addr} {f : Bool} {oT : Obj} {fp1 fp2 : List Addr} {n1 n2 i : Nat} {P1 P2 : Nat → Value → Prop} {St1 St2 : Nat → Heap → Prop}
theorem zipX_item_held {Q : Value → Shared → Prop} (S : ZipSep2 z TI TO i1 i2 fp1 fp2) (D1 : Draws prog w A i1 fp1 n1 P1 St1) (D2 : Draws prog w A i2 fp2 n2 P2 St2)
    (hz : IsZipHeld s.heap z TI TO T f) (hT : s.heap.get? T = some oT) (hTI : IsTupOf2 s.heap TI (.ref i1) (.ref i2)) (q1 : St1 i s.heap) (q2 : St2 i s.heap) (l1 : i < n1) (l2 : i < n2)
    (hQ : ∀ x1 x2 h' tk, P1 i x1 → P2 i x2 → IsZipHeld h' z TI TO T true → St1 (i + 1) h' → St2 (i + 1) h' → IsTupOf2 h' s.heap.objs.size x1 x2 → (∀ c o, c ≠ z → c ≠ i1 → c ≠ i2 → s.heap.get? c = some o → h'.get? c = some o) → Q (.ref s.heap.objs.size) { s with heap := h', toks := tk }) :
    wpAny (model prog w) A (Builtin.«zip.__next__» ⟨[.ref z], []⟩) (fun fin s' => ∃ v, fin = .done (.ret v) ∧ Q v s') E s := by
  obtain ⟨hp, g, d, k0, os⟩ := s
  show wpAny _ _ (field (.ref z) 2 >>= _) _ _ _; refine wpAny_bind (wpAny_field hz rfl (x := .bool false) rfl ?_)
  show wpAny _ _ (field (.ref z) 3 >>= _) _ _ _; refine wpAny_bind (wpAny_field hz rfl (x := .ref TI) rfl ?_); refine wpAny_bind (wpAny_seqItems hTI rfl ?_)
  show wpAny _ _ (Builtin.SmallTypes.ownedTupleIsFree (.ref z) >>= _) _ _ _; refine wpAny_bind (wpAny_tupleHeld_zip hz hT fun g0 hz0 e0 => ?_)
  replace e0 : Heap.SameBut z hp g0 := e0
  simp only [Bool.false_eq_true, if_false]; refine wpAny_bind ?_
  rw [← Array.forIn_toList]; simp only [List.forIn_cons, List.forIn_nil]; refine wpAny_bind (wpAny_bind (wpAny_holding ?_))
  show wpAny _ _ (Builtin.SmallTypes.nextOf (.ref i1) >>= _) _ _ ⟨g0, g, d, k0, os⟩
  refine wpAny_bind (D1.item i _ _ _ l1 (D1.over q1 e0 S.zf1) fun x1 p1 t1 r1 u1 e1 => wpAny_pure ?_); replace e1 : Heap.SameBut i1 g0 p1 := e1
  refine wpAny_pure ?_; refine wpAny_bind (wpAny_bind (wpAny_holding ?_))
  show wpAny _ _ (Builtin.SmallTypes.nextOf (.ref i2) >>= _) _ _ ⟨p1, g, d, t1, os⟩
  refine wpAny_bind (D2.item i _ _ _ l2 (D2.over (D2.over q2 e0 S.zf2) e1 S.sep1_2) fun x2 p2 t2 r2 u2 e2 => wpAny_pure ?_); replace e2 : Heap.SameBut i2 p1 p2 := e2
  refine wpAny_pure (wpAny_pure ?_); show wpAny _ _ (newTuple [x1, x2] >>= _) _ _ _; refine wpAny_bind (wpAny_newTuple ?_)
  have sz : p2.objs.size = hp.objs.size := by rw [e2.1, e1.1, e0.1]
  have hz2 : IsZipHeld p2 z TI TO T true := e2.extBut _ _ S.zi2 (e1.extBut _ _ S.zi1 hz0)
  have kk : ∀ c o, c ≠ z → c ≠ i1 → c ≠ i2 → hp.get? c = some o → p2.get? c = some o := fun c o c0 c1 c2 e => e2.extBut _ _ c2 (e1.extBut _ _ c1 (e0.extBut _ _ c0 e))
  refine wpAny_pure ⟨_, rfl, ?_⟩
  have pu : ∀ c o, p2.get? c = some o → (p2.push { cls := .type "tuple", data := .seq #[x1, x2] }).get? c = some o := fun c o e => Heap.get?_push_of_some _ e
  have fin := hQ x1 x2 (p2.push { cls := .type "tuple", data := .seq #[x1, x2] }) t2 r1 r2 (pu _ _ hz2) (D1.frame _ _ _ (D1.over u1 e2 S.sep2_1) fun b hb o e => pu b o e) (D2.frame _ _ _ u2 fun b hb o e => pu b o e)
    (by rw [show (Shared.mk hp g d k0 os).heap.objs.size = p2.objs.size from sz.symm]; exact Heap.get?_push_size _ rfl) fun c o c0 c1 c2 e => pu c o (kk c o c0 c1 c2 e)
  rw [show (Shared.mk hp g d k0 os).heap.objs.size = p2.objs.size from sz.symm] at fin
  exact fin
theorem zipX_end_held {Q : Fin → Shared → Prop} (S : ZipSep2 z TI TO i1 i2 fp1 fp2) (D1 : Draws prog w A i1 fp1 n1 P1 St1) (D2 : Draws prog w A i2 fp2 n2 P2 St2)
    (hz : IsZipHeld s.heap z TI TO T f) (hT : s.heap.get? T = some oT) (hTI : IsTupOf2 s.heap TI (.ref i1) (.ref i2)) (q1 : St1 i s.heap) (q2 : St2 i s.heap) (l1 : i ≤ n1) (l2 : i ≤ n2) (hend : i = n1 ∨ i = n2)
    (hE : ∀ h' tk e, (∀ c o, c ≠ z → c ≠ i1 → c ≠ i2 → s.heap.get? c = some o → h'.get? c = some o) → (∃ o, h'.get? e = some o ∧ o.cls = .type "StopIteration") → E (.ref e) { s with heap := h', toks := tk }) :
    wpAny (model prog w) A (Builtin.«zip.__next__» ⟨[.ref z], []⟩) Q E s := by
  obtain ⟨hp, g, d, k0, os⟩ := s
  show wpAny _ _ (field (.ref z) 2 >>= _) _ _ _; refine wpAny_bind (wpAny_field hz rfl (x := .bool false) rfl ?_)
  show wpAny _ _ (field (.ref z) 3 >>= _) _ _ _; refine wpAny_bind (wpAny_field hz rfl (x := .ref TI) rfl ?_); refine wpAny_bind (wpAny_seqItems hTI rfl ?_)
  show wpAny _ _ (Builtin.SmallTypes.ownedTupleIsFree (.ref z) >>= _) _ _ _; refine wpAny_bind (wpAny_tupleHeld_zip hz hT fun g0 hz0 e0 => ?_)
  replace e0 : Heap.SameBut z hp g0 := e0
  simp only [Bool.false_eq_true, if_false]; refine wpAny_bind ?_
  rw [← Array.forIn_toList]; simp only [List.forIn_cons, List.forIn_nil]; refine wpAny_bind (wpAny_bind (wpAny_holding ?_))
  show wpAny _ _ (Builtin.SmallTypes.nextOf (.ref i1) >>= _) _ _ ⟨g0, g, d, k0, os⟩
  by_cases h1 : i < n1
  · refine wpAny_bind (D1.item i _ _ _ h1 (D1.over q1 e0 S.zf1) fun x1 p1 t1 r1 u1 e1 => wpAny_pure ?_); replace e1 : Heap.SameBut i1 g0 p1 := e1
    refine wpAny_pure ?_; refine wpAny_bind (wpAny_bind (wpAny_holding ?_))
    show wpAny _ _ (Builtin.SmallTypes.nextOf (.ref i2) >>= _) _ _ ⟨p1, g, d, t1, os⟩
    have h2 : i = n2 := by omega
    refine wpAny_bind (D2.done ⟨p1, g, d, t1, os⟩ _ _ (by rw [← h2]; exact D2.over (D2.over q2 e0 S.zf2) e1 S.sep1_2) fun q e hq he => ?_); replace hq : Heap.ExtBut i2 p1 q := hq
    exact hE q t1 e (fun c o c0 c1 c2 x => hq _ _ c2 (e1.extBut _ _ c1 (e0.extBut _ _ c0 x))) he
  · have h2 : i = n1 := by omega
    refine wpAny_bind (D1.done ⟨g0, g, d, k0, os⟩ _ _ (by rw [← h2]; exact D1.over q1 e0 S.zf1) fun q e hq he => ?_); replace hq : Heap.ExtBut i1 g0 q := hq
    exact hE q k0 e (fun c o c0 c1 c2 x => hq _ _ c1 (e0.extBut _ _ c0 x)) he
theorem pyNext_zipX_item {Q : Option Value → Shared → Prop} (S : ZipSep2 z TI TO i1 i2 fp1 fp2) (D1 : Draws prog w A.in1 i1 fp1 n1 P1 St1) (D2 : Draws prog w A.in1 i2 fp2 n2 P2 St2)
    (hz : IsZipHeld s.heap z TI TO T f) (hT : s.heap.get? T = some oT) (hTI : IsTupOf2 s.heap TI (.ref i1) (.ref i2)) (q1 : St1 i s.heap) (q2 : St2 i s.heap) (l1 : i < n1) (l2 : i < n2)
    (hQ : ∀ x1 x2 h' tk, P1 i x1 → P2 i x2 → IsZipHeld h' z TI TO T true → St1 (i + 1) h' → St2 (i + 1) h' → IsTupOf2 h' s.heap.objs.size x1 x2 → (∀ c o, c ≠ z → c ≠ i1 → c ≠ i2 → s.heap.get? c = some o → h'.get? c = some o) → Q (some (.ref s.heap.objs.size)) { s with heap := h', toks := tk }) :
    wpAny (model prog w) A (pyNext (.ref z)) Q E s := by
  have ty : s.TypeIs (.ref z) "zip" := ⟨_, hz, rfl⟩
  unfold pyNext
  exact wpAny_bind (wpAny_attempt (wpAny_callSpecial?_slot (name := Str.ofString "__next__") ty F.slot_zip_next (wpAny_call_entry F.slot_zip_next ty F.entry_zip_next
    (zipX_item_held S D1 D2 hz hT hTI q1 q2 l1 l2 fun x1 x2 h' tk y1 y2 b1 d1 d2 b5 b7 => wpAny_pure (hQ x1 x2 h' tk y1 y2 b1 d1 d2 b5 b7)) (F.args_zip_next_1 _))))
theorem pyNext_zipX_end {Q : Option Value → Shared → Prop} (S : ZipSep2 z TI TO i1 i2 fp1 fp2) (D1 : Draws prog w A.in1 i1 fp1 n1 P1 St1) (D2 : Draws prog w A.in1 i2 fp2 n2 P2 St2)
    (hz : IsZipHeld s.heap z TI TO T f) (hT : s.heap.get? T = some oT) (hTI : IsTupOf2 s.heap TI (.ref i1) (.ref i2)) (q1 : St1 i s.heap) (q2 : St2 i s.heap) (l1 : i ≤ n1) (l2 : i ≤ n2) (hend : i = n1 ∨ i = n2)
    (hQ : ∀ h' tk, (∀ c o, c ≠ z → c ≠ i1 → c ≠ i2 → s.heap.get? c = some o → h'.get? c = some o) → Q none { s with heap := h', toks := tk }) : wpAny (model prog w) A (pyNext (.ref z)) Q E s := by
  have ty : s.TypeIs (.ref z) "zip" := ⟨_, hz, rfl⟩
  unfold pyNext
  refine wpAny_bind (wpAny_attempt (wpAny_callSpecial?_slot (name := Str.ofString "__next__") ty F.slot_zip_next (wpAny_call_entry F.slot_zip_next ty F.entry_zip_next (zipX_end_held S D1 D2 hz hT hTI q1 q2 l1 l2 hend fun h' tk e hk he => ?_) (F.args_zip_next_1 _))))
  obtain ⟨o, ho, hc⟩ := he
  refine wpAny_bind (wpAny_isInstance (T := "StopIteration") (b := true) ⟨o, ho, hc⟩ isSubtype_stop ?_); exact wpAny_pure (hQ _ _ hk)
theorem pairArg_zipX (A0 : Around) (h0 : A0.handled = none) (S : ZipSep2 z TI TO i1 i2 fp1 fp2) (TI1 : TI ∉ fp1) (TI2 : TI ∉ fp2) (D1 : ∀ A : Around, A.handled = none → Draws prog w A i1 fp1 n1 P1 St1) (D2 : ∀ A : Around, A.handled = none → Draws prog w A i2 fp2 n2 P2 St2) :
    PairArg prog w "zip" z ([z, TI, TO, i1, i2] ++ (fp1 ++ fp2)) [z, TO, i1, i2] (min n1 n2) (fun i k v => P1 i k ∧ P2 i v)
      (fun h => IsZip h z TI TO .none ∧ IsTupOf2 h TI (.ref i1) (.ref i2) ∧ (∃ a b, IsTupOf2 h TO a b) ∧ St1 0 h ∧ St2 0 h ∧ ∀ b ∈ fp1 ++ fp2, ∃ o, h.get? b = some o) where
  type := fun s ok => ⟨_, ok.1, rfl⟩
  notDict := by decide
  keep := fun h h' ⟨a1, a2, ⟨a, b, a3⟩, a4, a5, a6⟩ hk => ⟨hk _ _ a1, hk _ _ a2, ⟨a, b, hk _ _ a3⟩, (D1 A0 h0).frame _ _ _ a4 fun b _ o e => hk b o e, (D2 A0 h0).frame _ _ _ a5 fun b _ o e => hk b o e, fun b hb => by
    obtain ⟨o, ho⟩ := a6 b hb
    exact ⟨o, hk _ _ ho⟩⟩
  there := fun h ⟨a1, a2, ⟨a, b, a3⟩, a4, a5, a6⟩ c hc => by
    rcases List.mem_append.mp hc with hc | hc
    · simp only [List.mem_cons, List.not_mem_nil, or_false] at hc
      rcases hc with rfl | rfl | rfl | rfl | rfl
      · exact ⟨_, a1⟩
      · exact ⟨_, a2⟩
      · exact ⟨_, a3⟩
      · exact a6 _ (List.mem_append_left _ S.mem1)
      · exact a6 _ (List.mem_append_right _ S.mem2)
    · exact a6 c hc
  sub := fun b hb => List.mem_append_left _ (by
    simp only [List.mem_cons, List.not_mem_nil, or_false] at hb ⊢
    rcases hb with q | q | q | q
    · exact .inl q
    · exact .inr (.inr (.inl q))
    · exact .inr (.inr (.inr (.inl q)))
    · exact .inr (.inr (.inr (.inr q))))
  noKeys := fun A s Q E hA ok h => getAttrOr_miss_zip ok.1 rfl rfl rfl zip_no_keys (by decide +kernel) hA h
  iter := fun A s d Q E hA ⟨a1, a2, ⟨a, b, a3⟩, a4, a5, a6⟩ hd hdf h => by
    have dn : ∀ c, c ∈ [z, TI, TO, i1, i2] ++ (fp1 ++ fp2) → c ≠ d := fun c hc e => hdf (e ▸ hc)
    have dz := dn z (by simp)
    have dTI := dn TI (by simp)
    have dTO := dn TO (by simp)
    have d1 : ∀ c ∈ fp1, c ≠ d := fun c hc => dn c (by simp [hc])
    have d2 : ∀ c ∈ fp2, c ≠ d := fun c hc => dn c (by simp [hc])
    have E1 := D1 A.in1 hA
    have E2 := D2 A.in1 hA
    refine wpAny_pyIter_zip a1 (h z [z, TO, i1, i2] (fun i h => IsTupOf2 h TI (.ref i1) (.ref i2) ∧ St1 i h ∧ St2 i h ∧ ((IsZip h z TI TO .none ∧ ∃ a b, IsTupOf2 h TO a b) ∨ ∃ T f oT, IsZipHeld h z TI TO T f ∧ h.get? T = some oT ∧ T ≠ z ∧ T ≠ i1 ∧ T ≠ i2 ∧ T ≠ d)) s.heap s.toks ?_ ⟨a2, a4, a5, .inl ⟨a1, a, b, a3⟩⟩ (fun _ _ e => e) fun b hb => .inl hb)
    exact {
      off := fun hm => by
        simp only [List.mem_cons, List.not_mem_nil, or_false] at hm
        rcases hm with e | e | e | e
        · exact dz e.symm
        · exact dTO e.symm
        · exact d1 _ S.mem1 e.symm
        · exact d2 _ S.mem2 e.symm
      frame := fun i g1 g2 ⟨b1, b2, b3, b4⟩ hk => by
        refine ⟨hk _ _ dTI b1, E1.frame _ _ _ b2 fun b hb o e => hk b o (d1 b hb) e, E2.frame _ _ _ b3 fun b hb o e => hk b o (d2 b hb) e, ?_⟩
        rcases b4 with ⟨c1, x, y, c2⟩ | ⟨T, f, oT, c1, c2, c3, c4, c5, c6⟩
        · exact .inl ⟨hk _ _ dz c1, x, y, hk _ _ dTO c2⟩
        · exact .inr ⟨T, f, oT, hk _ _ dz c1, hk _ _ c6 c2, c3, c4, c5, c6⟩
      item := fun i s1 Q1 X1 hi ⟨b1, b2, b3, b4⟩ hds hQ => by
        have l1 : i < n1 := Nat.lt_of_lt_of_le hi (Nat.min_le_left ..)
        have l2 : i < n2 := Nat.lt_of_lt_of_le hi (Nat.min_le_right ..)
        have lt : ∀ {c o}, s1.heap.get? c = some o → s1.heap.objs.size ≠ c := fun e => Nat.ne_of_gt (Heap.lt_size e)
        have m1 : s1.heap.objs.size ≠ i1 := by
          obtain ⟨o, ho⟩ := E1.live _ _ b2
          exact lt ho
        have m2 : s1.heap.objs.size ≠ i2 := by
          obtain ⟨o, ho⟩ := E2.live _ _ b3
          exact lt ho
        rcases b4 with ⟨c1, x, y, c2⟩ | ⟨T, f, oT, c1, c2, c3, c4, c5, c6⟩
        · refine wpAny_pyNext_zipD2_item S E1 E2 c1 b1 c2 b2 b3 l1 l2 fun x1 x2 h' tk r1 r2 k1 k2 k3 k4 k5 k6 hk => ?_
          exact hQ s1.heap.objs.size _ _ h' tk ⟨r1, r2⟩ (.inl ⟨_, k5, rfl, _, rfl⟩) ⟨hk _ _ S.TIz S.TITO S.TIi1 S.TIi2 b1, k3, k4, .inr ⟨s1.heap.objs.size, false, _, k1, k5, lt c1, m1, m2, Nat.ne_of_gt hds⟩⟩
            fun c o hc e => hk c o (fun x => hc (by simp [x])) (fun x => hc (by simp [x])) (fun x => hc (by simp [x])) (fun x => hc (by simp [x])) e
        · refine pyNext_zipX_item S E1 E2 c1 c2 b1 b2 b3 l1 l2 fun x1 x2 h' tk r1 r2 k1 k3 k4 k5 hk => ?_
          exact hQ s1.heap.objs.size _ _ h' tk ⟨r1, r2⟩ (.inl ⟨_, k5, rfl, _, rfl⟩) ⟨hk _ _ S.TIz S.TIi1 S.TIi2 b1, k3, k4, .inr ⟨T, true, oT, k1, hk _ _ c3 c4 c5 c2, c3, c4, c5, c6⟩⟩
            fun c o hc e => hk c o (fun x => hc (by simp [x])) (fun x => hc (by simp [x])) (fun x => hc (by simp [x])) e
      done := fun s1 Q1 X1 ⟨b1, b2, b3, b4⟩ hQ => by
        have he : min n1 n2 = n1 ∨ min n1 n2 = n2 := by omega
        rcases b4 with ⟨c1, x, y, c2⟩ | ⟨T, f, oT, c1, c2, c3, c4, c5, c6⟩
        · exact wpAny_pyNext_zipD2_end S E1 E2 c1 b1 c2 b2 b3 (Nat.min_le_left ..) (Nat.min_le_right ..) he fun h' tk hk => hQ h' tk fun c o hc e => hk c o (fun x => hc (by simp [x])) (fun x => hc (by simp [x])) (fun x => hc (by simp [x])) (fun x => hc (by simp [x])) e
        · exact pyNext_zipX_end S E1 E2 c1 c2 b1 b2 b3 (Nat.min_le_left ..) (Nat.min_le_right ..) he fun h' tk hk => hQ h' tk fun c o hc e => hk c o (fun x => hc (by simp [x])) (fun x => hc (by simp [x])) (fun x => hc (by simp [x])) e }
end
end PySem
namespace DE
open PySem PySem.Spec PyProof.Rows L2
section
variable {X : Cx} {pins : List (Addr × Obj)} {σ : L2.St} {H : Hp} {s : Shared}
theorem Sc.drawU {sc : Sc} (I : Inv X pins σ H s) (ok : sc.okH X.K H) {it : Addr} (hne : sc.adr ≠ some it) :
    ∃ (fp : List Addr) (Pd : Nat → Value → Prop) (St : Nat → Heap → Prop), (∀ A : Around, A.handled = none → Draws X.prog X.w A it fp sc.len Pd St) ∧ it ∈ fp ∧ (∀ b ∈ fp, b = it ∨ sc.adr = some b ∧ ∃ o, s.heap.get? b = some o) ∧ (∀ i, sc.it it i s.heap → St i s.heap) ∧
      (∀ i h, St i h → sc.it it i h) ∧ ∀ i v, Pd i v → ∃ x, sc.nth i = some x ∧ RelV x v := by
  cases sc with
  | lst l xs =>
    obtain ⟨its, rv, p, hz⟩ := I.list ok
    have hn : l ≠ it := fun e => hne (by rw [e]; rfl)
    have hl : xs.length = its.toArray.size := by rw [rv.length]; simp
    refine ⟨[it, l], fun i v => its.toArray[i]? = some v, fun i h => h.IsListIter it l i ∧ h.IsList l its.toArray, fun A hh => by rw [show (Sc.lst l xs).len = its.toArray.size from hl]; exact Draws.list hh it l hn its.toArray, by simp, fun b hb => ?_, fun i h => ⟨h, p.isList⟩, fun i h (st : _ ∧ _) => st.1, fun i v e => ?_⟩
    · have : b = it ∨ b = l := by simpa using hb
      rcases this with e | e
      · exact .inl e
      · exact .inr ⟨by rw [e]; rfl, by rw [e]; obtain ⟨o, ho, _⟩ := p.isList; exact ⟨o, ho⟩⟩
    · have e : its[i]? = some v := by simpa using e
      have hi : i < xs.length := by
        by_cases h : i < xs.length
        · exact h
        · rw [List.getElem?_eq_none (by rw [← rv.length]; omega)] at e
          cases e
      obtain ⟨u, hu, ru⟩ := rv.get (List.getElem?_eq_getElem hi)
      rw [e] at hu
      cases hu
      exact ⟨_, List.getElem?_eq_getElem hi, ru⟩
  | tup l xs =>
    obtain ⟨its, rv, p, hz⟩ := I.tuple ok
    have hn : l ≠ it := fun e => hne (by rw [e]; rfl)
    have hl : xs.length = its.toArray.size := by rw [rv.length]; simp
    have p' : s.heap.IsTuple l its.toArray := p
    refine ⟨[it, l], fun i v => its.toArray[i]? = some v, fun i h => h.IsTupleIter it l i ∧ h.IsTuple l its.toArray, fun A hh => by rw [show (Sc.tup l xs).len = its.toArray.size from hl]; exact Draws.tuple hh it l hn its.toArray, by simp, fun b hb => ?_, fun i h => ⟨h, p'⟩, fun i h (st : _ ∧ _) => st.1, fun i v e => ?_⟩
    · have : b = it ∨ b = l := by simpa using hb
      rcases this with e | e
      · exact .inl e
      · exact .inr ⟨by rw [e]; rfl, by rw [e]; obtain ⟨o, ho, _⟩ := p'; exact ⟨o, ho⟩⟩
    · have e : its[i]? = some v := by simpa using e
      have hi : i < xs.length := by
        by_cases h : i < xs.length
        · exact h
        · rw [List.getElem?_eq_none (by rw [← rv.length]; omega)] at e
          cases e
      obtain ⟨u, hu, ru⟩ := rv.get (List.getElem?_eq_getElem hi)
      rw [e] at hu
      cases hu
      exact ⟨_, List.getElem?_eq_getElem hi, ru⟩
  | txt z t =>
    refine ⟨_, _, _, fun A hh => Draws.text hh it z t, by simp, fun b hb => .inl (by simpa using hb), fun i h => h, fun i h st => st, fun i v e => ?_⟩
    obtain ⟨c, u, h1, h2⟩ := e
    exact ⟨_, by show z.cps[i]?.map _ = _; rw [h1]; rfl, by rw [h2]; exact ⟨u, rfl⟩⟩
end
section
variable {X : Cx} {pins : List (Addr × Obj)} {σ : L2.St} {H H0 : Hp} {s : Shared} {z TI TO i1 i2 : Addr} {c1 c2 : Sc}
/-- a tracked zip is opened -/
theorem zip_open (I1 : Inv X pins σ (zipH H0 z TI TO i1 i2 c1 c2) s) (hnd : [z, TI, TO, i1, i2].Nodup) (hb : ∀ b ∈ [z, TI, TO, i1, i2], X.s_0.heap.objs.size ≤ b ∧ H0 b = none) :
    Inv X pins σ H0 s ∧ (IsZip s.heap z TI TO .none ∧ IsTupOf2 s.heap TI (.ref i1) (.ref i2) ∧ (∃ a1 a2, IsTupOf2 s.heap TO a1 a2) ∧ c1.it i1 0 s.heap ∧ c2.it i2 0 s.heap) ∧ ∀ b ∈ [z, TI, TO, i1, i2], FpOk X pins H0 b := by
  have hnd' := hnd
  simp only [List.nodup_cons, List.mem_cons, List.not_mem_nil, or_false, not_or, List.nodup_nil, and_true, not_false_eq_true] at hnd
  obtain ⟨⟨n1, n2, n3, n4⟩, ⟨n5, n6, n7⟩, ⟨n8, n9⟩, n10⟩ := hnd
  have f1 := (hb z (by simp)).2
  have f2 := (hb TI (by simp)).2
  have f3 := (hb TO (by simp)).2
  have f4 := (hb i1 (by simp)).2
  have f5 := (hb i2 (by simp)).2
  have e1 : zipH H0 z TI TO i1 i2 c1 c2 z = some (.ext fun h => IsZip h z TI TO .none) := upd_same
  have e2 : zipH H0 z TI TO i1 i2 c1 c2 TI = some (.ext fun h => IsTupOf2 h TI (.ref i1) (.ref i2)) := by
    unfold zipH
    rw [upd_ne (Ne.symm n1), upd_same]
  have e3 : zipH H0 z TI TO i1 i2 c1 c2 TO = some (.ext fun h => ∃ a1 a2, IsTupOf2 h TO a1 a2) := by
    unfold zipH
    rw [upd_ne (Ne.symm n2), upd_ne (Ne.symm n5), upd_same]
  have e4 : zipH H0 z TI TO i1 i2 c1 c2 i1 = some (.ext (c1.it i1 0)) := by
    unfold zipH
    rw [upd_ne (Ne.symm n3), upd_ne (Ne.symm n6), upd_ne (Ne.symm n8), upd_same]
  have e5 : zipH H0 z TI TO i1 i2 c1 c2 i2 = some (.ext (c2.it i2 0)) := by
    unfold zipH
    rw [upd_ne (Ne.symm n4), upd_ne (Ne.symm n7), upd_ne (Ne.symm n9), upd_ne (Ne.symm n10), upd_same]
  have s1' := (I1.hok _ _ e1).1
  have s2' := (I1.hok _ _ e2).1
  have s3' := (I1.hok _ _ e3).1
  have s4' := (I1.hok _ _ e4).1
  have s5' := (I1.hok _ _ e5).1
  have J1 := ItX.inv_drop I1 e1
  unfold zipH at J1
  rw [ItX.dropH_upd (by rw [upd_ne n1, upd_ne n2, upd_ne n3, upd_ne n4]; exact f1)] at J1
  have J2 := ItX.inv_drop J1 upd_same
  rw [ItX.dropH_upd (by rw [upd_ne n5, upd_ne n6, upd_ne n7]; exact f2)] at J2
  have J3 := ItX.inv_drop J2 upd_same
  rw [ItX.dropH_upd (by rw [upd_ne n8, upd_ne n9]; exact f3)] at J3
  have J4 := ItX.inv_drop J3 upd_same
  rw [ItX.dropH_upd (by rw [upd_ne n10]; exact f4)] at J4
  have J5 := ItX.inv_drop J4 upd_same
  rw [ItX.dropH_upd f5] at J5
  refine ⟨J5, ⟨s1', s2', s3', s4', s5'⟩, fun b hbm => ?_⟩
  have hh := hb b hbm
  have hm : ∃ u, zipH H0 z TI TO i1 i2 c1 c2 b = some u := by
    simp only [List.mem_cons, List.not_mem_nil, or_false] at hbm
    rcases hbm with rfl | rfl | rfl | rfl | rfl
    · exact ⟨_, e1⟩
    · exact ⟨_, e2⟩
    · exact ⟨_, e3⟩
    · exact ⟨_, e4⟩
    · exact ⟨_, e5⟩
  obtain ⟨u, hu⟩ := hm
  exact fp_of I1 hu hh.1 hh.2
theorem kv_take {kvs : List (Key × V)} {prs : List (Key × Value)} {i : Nat} {k : Key} {x : V} {v : Value} (r : KV (kvs.take i) prs) (e : kvs[i]? = some (k, x)) (rv : RelV x v) : KV (kvs.take (i + 1)) (prs ++ [(k, v)]) := by
  rw [List.take_add_one, e]
  have ap : ∀ {a b : List (Key × V)} {c d : List (Key × Value)}, KV a c → KV b d → KV (a ++ b) (c ++ d) := fun {a b c d} h1 h2 => by
    induction h1 with
    | nil => exact h2
    | cons h t ih => exact .cons h ih
  exact ap r (.cons ⟨rfl, rv⟩ .nil)
def rDictZ (K : PySem.W.Frag) (n : Nat) : List V → Hp → VK → Prop := fun xs H Q => ∃ z TI TO i1 i2 c1 c2 H0, ∃ kvs : List (Key × V), xs = [.ref z] ∧ [z, TI, TO, i1, i2].Nodup ∧ (∀ b ∈ [z, TI, TO, i1, i2], n ≤ b ∧ H0 b = none) ∧ H = zipH H0 z TI TO i1 i2 c1 c2 ∧ c1.okH K H0 ∧ c2.okH K H0 ∧
  kvs.length = min c1.len c2.len ∧ kvs.length ≤ sizeLine ∧ (∀ (i : Nat) (kv : Key × V), kvs[i]? = some kv → c1.nth i = some (kV kv.1) ∧ c2.nth i = some kv.2) ∧ ∀ p, H0 p = none → Q (.ref p) (upd H0 p (.dK (mergeK [] kvs)))
theorem call_dictZ (hc : X.calm = true) : CallR X (.type "dict") (rDictZ X.K X.s_0.heap.objs.size) := by
  intro pins s σ H xs us Q I r q
  obtain ⟨z, TI, TO, i1, i2, c1, c2, H0, kvs, ex, hnd, hb, rfl, k1, k2, hlen, hlim, hat, q⟩ := q
  subst ex
  obtain ⟨u, eu, rx⟩ := vals1 r
  subst eu
  cases rx
  obtain ⟨J, ⟨a1, a2, a3, a4, a5⟩, hf⟩ := zip_open I hnd hb
  obtain ⟨fp1, P1, S1, D1, hm1, hfp1, hs10, hs11, hv1⟩ := Sc.drawU J k1 (Sc.apart J k1 (hf i1 (by simp)))
  obtain ⟨fp2, P2, S2, D2, hm2, hfp2, hs20, hs21, hv2⟩ := Sc.drawU J k2 (Sc.apart J k2 (hf i2 (by simp)))
  have no1 : ∀ b ∈ [z, TI, TO, i1, i2], b ≠ i1 → b ∉ fp1 := fun b hb hn q => (hfp1 b q).elim hn fun w => Sc.apart J k1 (hf b hb) w.1
  have no2 : ∀ b ∈ [z, TI, TO, i1, i2], b ≠ i2 → b ∉ fp2 := fun b hb hn q => (hfp2 b q).elim hn fun w => Sc.apart J k2 (hf b hb) w.1
  simp only [List.nodup_cons, List.mem_cons, List.not_mem_nil, or_false, not_or, List.nodup_nil, and_true, not_false_eq_true] at hnd
  obtain ⟨⟨n1, n2, n3, n4⟩, ⟨n5, n6, n7⟩, ⟨n8, n9⟩, n10⟩ := hnd
  have S : ZipSep2 z TI TO i1 i2 fp1 fp2 := ⟨Ne.symm n1, Ne.symm n2, n5, n6, hm1, no1 z (by simp) n3, no1 TO (by simp) n8, n7, hm2, no2 z (by simp) n4, no2 TO (by simp) n9, no2 i1 (by simp) n10, no1 i2 (by simp) (Ne.symm n10)⟩
  have hd := J.ok.hd hc
  have Pa := pairArg_zipX (prog := X.prog) (w := X.w) X.A hd S (no1 TI (by simp) n6) (no2 TI (by simp) n7) D1 D2
  have okz : IsZip s.heap z TI TO .none ∧ IsTupOf2 s.heap TI (.ref i1) (.ref i2) ∧ (∃ a b, IsTupOf2 s.heap TO a b) ∧ S1 0 s.heap ∧ S2 0 s.heap ∧ ∀ b ∈ fp1 ++ fp2, ∃ o, s.heap.get? b = some o := by
    refine ⟨a1, a2, a3, hs10 _ a4, hs20 _ a5, fun b hb => ?_⟩
    rcases List.mem_append.mp hb with h | h
    · rcases hfp1 b h with w | w
      · obtain ⟨o, ho, _⟩ := Sc.it_rec a4
        exact ⟨o, by rw [w]; exact ho⟩
      · exact w.2
    · rcases hfp2 b h with w | w
      · obtain ⟨o, ho, _⟩ := Sc.it_rec a5
        exact ⟨o, by rw [w]; exact ho⟩
      · exact w.2
  refine call_dict_arg Pa okz fun s1 hs1 hdf ok1 => ?_
  subst hs1
  refine updateFrom_arg (A := X.A.in1) (Tab := fun i h => ∃ prs, KV (kvs.take i) prs ∧ h.DictOf (mixKind X.prog X.w) s.heap.objs.size (merged [] prs)) Pa .none hd ok1 hdf ⟨[], .nil, Heap.DictOf.new s.heap⟩ (fun _ _ ⟨_, _, tb⟩ => tb.lt_size)
    (fun i h h' wr' hw _ ⟨prs, r, tb⟩ hk => ⟨prs, r, tb.at' fun o e => hk _ o hw e⟩) ?_ ?_
  · intro i key v s' Q' E' hi hrel ⟨prs, r, tb⟩ _ hQ
    obtain ⟨x1, e1, r1⟩ := hv1 _ _ hrel.1
    obtain ⟨x2, e2, r2⟩ := hv2 _ _ hrel.2
    have hk := List.getElem?_eq_getElem (l := kvs) (i := i) (by rw [hlen]; exact hi)
    obtain ⟨g1, g2⟩ := hat i _ hk
    rw [e1] at g1
    cases g1
    rw [e2] at g2
    cases g2
    have hpl : prs.length = i := by
      rw [← r.length, List.length_take]
      have : i < kvs.length := by rw [hlen]; exact hi
      omega
    have es : merged [] (prs ++ [((kvs[i]'(by rw [hlen]; exact hi)).1, v)]) = stored (merged [] prs) (kvs[i]'(by rw [hlen]; exact hi)).1 v := by
      have := merged_take_succ [] (prs ++ [((kvs[i]'(by rw [hlen]; exact hi)).1, v)]) prs.length ((kvs[i]'(by rw [hlen]; exact hi)).1, v) (by simp)
      rw [List.take_left, List.take_of_length_le (by simp)] at this
      exact this
    refine wpAny_dictSet_pairs (hsz := ?_) (kV_is r1) tb fun h' hm' hs => ?_
    · refine hQ h' _ ⟨prs ++ [((kvs[i]'(by rw [hlen]; exact hi)).1, v)], kv_take r hk r2, ?_⟩ hs
      rw [es]
      exact hm'
    · have := merged_length_le ([] : List (Key × Value)) prs
      rw [List.length_nil] at this
      have : i < kvs.length := by rw [hlen]; exact hi
      omega
  · intro h' tk ⟨prs, r, tb⟩ hk
    rw [List.take_of_length_le (Nat.le_of_eq hlen)] at r
    have hm : (s.heap.objs.size == sysModules) = false := beq_eq_false_iff_ne.mpr (Nat.ne_of_gt I.big)
    have hl : (mergeK [] kvs).length ≤ sizeLine := by
      refine Nat.le_trans (length_mergeK kvs []) ?_
      rw [List.length_nil, Nat.zero_add]
      exact hlim
    have wr : ∀ b ∈ [z, TO, i1, i2], FpOk X pins H0 b := fun b hb => hf b (Pa.sub b hb |> fun hm => by
      simp only [List.mem_cons, List.not_mem_nil, or_false] at hb ⊢
      rcases hb with q | q | q | q
      · exact .inl q
      · exact .inr (.inr (.inl q))
      · exact .inr (.inr (.inr (.inl q)))
      · exact .inr (.inr (.inr (.inr q))))
    refine ⟨rfl, .ref s.heap.objs.size, upd H0 s.heap.objs.size (.dK (mergeK [] kvs)), J.turnedNew (t' := tk) (ch := [z, TO, i1, i2]) (fun b o hw e => hk b o (Nat.ne_of_lt (Heap.lt_size e)) hw (Heap.get?_push_of_some _ e)) wr (Nat.le_refl _) (show ObjOk X.prog X.w _ _ _ (.dK (mergeK [] kvs)) from ⟨hl, hm, merged [] prs, KV.merge r .nil, tb⟩), rfl, q _ (J.hok.fresh (Nat.le_refl _))⟩
end
/-! ### dict(zip(a, b)) over data -/
def dkOf : D → Option DK
  | .str s => some (.s s)
  | .int i => some (.i i)
  | _ => none
def dzipL : List D → Option (List (DK × D))
  | [] => some []
  | .tup [a, b] :: r => (dkOf a).bind fun k => (dzipL r).map fun l => (k, b) :: l
  | _ => none
def dmerge (ks : List DK) (vs : List D) : List (DK × D) → List DK × List D
  | [] => (ks, vs)
  | (k, d) :: r => dmerge (dkKeys ks k) (dkVals ks vs k d) r
def dzipN (fa : FA) : FN := fun δ => do
  let (items, δ1) ← zip2F fa δ
  let l ← ofO (dzipL items)
  if lim items.length then pure (.dk (dmerge [] [] l).1 (dmerge [] [] l).2, δ1) else .stuck
theorem dkOf_key {T : Ctx} {I : Hp} {d : D} {k : DK} {v : V} (e : dkOf d = some k) (r : Rep T I d v) : v = kV (kk k) := by
  cases d with
  | str s => cases e; exact r.str_inv
  | int i => cases e; exact r.int_inv
  | _ => cases e
theorem dzipL_get : ∀ {items : List D} {l : List (DK × D)}, dzipL items = some l → l.length = items.length ∧ ∀ (i : Nat) (a b : D), items[i]? = some (.tup [a, b]) → ∃ k, dkOf a = some k ∧ l[i]? = some (k, b)
  | [], l, e => by
    cases e
    exact ⟨rfl, fun i a b h => by simp at h⟩
  | .tup [a, b] :: r, l, e => by
    simp only [dzipL, Option.bind_eq_some_iff, Option.map_eq_some_iff] at e
    obtain ⟨k, e1, l', e2, rfl⟩ := e
    obtain ⟨h1, h2⟩ := dzipL_get e2
    refine ⟨by simp [h1], fun i a' b' h => ?_⟩
    cases i with
    | zero =>
      simp only [List.getElem?_cons_zero, Option.some.injEq, D.tup.injEq, List.cons.injEq, and_true] at h
      obtain ⟨rfl, rfl⟩ := h
      exact ⟨k, e1, rfl⟩
    | succ i => exact h2 i a' b' (by simpa using h)
theorem repDk_merge {T : Ctx} {I : Hp} : ∀ {l : List (DK × D)} {more : List (Key × V)} {ks : List DK} {ds : List D} {kvs : List (Key × V)}, RepDk T I ks ds kvs → more.length = l.length → (∀ (i : Nat) p q, l[i]? = some p → more[i]? = some q → q.1 = kk p.1 ∧ Rep T I p.2 q.2) →
    RepDk T I (dmerge ks ds l).1 (dmerge ks ds l).2 (mergeK kvs more)
  | [], [], ks, ds, kvs, h, _, _ => h
  | [], _ :: _, _, _, _, _, e, _ => by simp at e
  | _ :: _, [], _, _, _, _, e, _ => by simp at e
  | (k, d) :: l, (k', v) :: more, ks, ds, kvs, h, e, f => by
    obtain ⟨e1, r1⟩ := f 0 (k, d) (k', v) rfl rfl
    have e1 : k' = kk k := e1
    subst e1
    show RepDk T I (dmerge (dkKeys ks k) (dkVals ks ds k d) l).1 (dmerge (dkKeys ks k) (dkVals ks ds k d) l).2 (mergeK (putK kvs (kk k) v) more)
    exact repDk_merge (h.put r1) (by simpa using e) fun i p q h1 h2 => f (i + 1) p q (by simpa using h1) (by simpa using h2)
theorem Sc.nth_some {sc : Sc} {i : Nat} (h : i < sc.len) : ∃ x, sc.nth i = some x := by
  cases sc with
  | lst l xs => exact ⟨_, List.getElem?_eq_getElem h⟩
  | tup l xs => exact ⟨_, List.getElem?_eq_getElem h⟩
  | txt z t =>
    have h : i < z.cps.size := h
    exact ⟨_, by show z.cps[i]?.map _ = _; rw [Array.getElem?_eq_getElem h]; rfl⟩
theorem dn_dzip {T : Ctx} {X : Cx} {E : XK} {e e2 : Expr} {fa : FA} {p p2 pos pos2 : Pos} (hm : X.mg "dict" = none) (hm2 : X.mg "zip" = none) (ha : DA T X E [e, e2] fa) (hg : Gl X "dict" := by rfl) (hg2 : Gl X "zip" := by rfl) (hc : X.calm = true := by rfl) (hK : T.K = X.K := by rfl)
    (hs : starEach [e, e2] X.env = [(false, eval e X.env), (false, eval e2 X.env)] := by rfl) (hs2 : starEach [e2] X.env = [(false, eval e2 X.env)] := by rfl) (hs3 : starEach [.Call (.Name "zip" p2) [e, e2] [] pos2] X.env = (false, eval (.Call (.Name "zip" p2) [e, e2] [] pos2) X.env) :: starEach [] X.env := by rfl) :
    DN T X E (.Call (.Name "dict" p) [.Call (.Name "zip" p2) [e, e2] [] pos2] [] pos) (dzipN fa) := by
  refine PE.of (pe_callTy (call_dictZ hc) hg hm (by rfl) (pa_cons (pe_zipV ha hm2 hg2 hK hs hs2) pa_nil hs3) (by decide) (by decide) hs3 (by rfl)) fun σ H Q ⟨M, A, I, δ, ok, w⟩ => ?_
  refine ⟨M, A, I, δ, ok, w.bind.imp fun (items, δ1) e1 w1 => ?_⟩
  intro z TI TO i1 i2 c1 c2 I1 H1 ok1 st1 hnd hb wk hr
  replace w1 : Wants T M E (ofO (dzipL items) >>= fun l => if lim items.length then pure (DE.D.dk (dmerge [] [] l).1 (dmerge [] [] l).2, δ1) else .stuck) _ := w1
  cases q : dzipL items with
  | none => rw [q] at w1; exact w1.elim
  | some l =>
    rw [q, ofO_some, ok_bind] at w1
    split at w1
    case isFalse => exact w1.elim
    case isTrue hl =>
    obtain ⟨hlen, k1, k2⟩ := wk.stops I1 H1 ok1.sub (.refl _)
    obtain ⟨g1, g2⟩ := dzipL_get q
    have pick : ∀ i, i < items.length → ∃ kv : Key × V, c1.nth i = some (kV kv.1) ∧ c2.nth i = some kv.2 ∧ ∀ p, l[i]? = some p → kv.1 = kk p.1 ∧ Rep T I1 p.2 kv.2 := fun i hi => by
      obtain ⟨x, hx⟩ := Sc.nth_some (sc := c1) (i := i) (by rw [hlen] at hi; omega)
      obtain ⟨y, hy⟩ := Sc.nth_some (sc := c2) (i := i) (by rw [hlen] at hi; omega)
      have hd := List.getElem?_eq_getElem hi
      obtain ⟨a, b, ed, ra, rb⟩ := hr i x y _ hd hx hy
      rw [ed] at hd
      obtain ⟨k, ek, el⟩ := g2 i a b hd
      have := dkOf_key ek ra
      subst this
      exact ⟨(kk k, y), hx, hy, fun p hp => by rw [el] at hp; cases hp; exact ⟨rfl, rb⟩⟩
    let kvs : List (Key × V) := List.ofFn fun i : Fin items.length => (pick i.1 i.2).choose
    have hkv : ∀ (i : Nat) (kv : Key × V), kvs[i]? = some kv → ∃ hi : i < items.length, kv = (pick i hi).choose := fun i kv h => by
      obtain ⟨hi, e⟩ := List.getElem?_eq_some_iff.mp h
      have hi' : i < items.length := by simpa [kvs] using hi
      refine ⟨hi', ?_⟩
      rw [← e]
      simp [kvs]
    have hkl : kvs.length = items.length := by simp [kvs]
    refine ⟨z, TI, TO, i1, i2, c1, c2, H1, kvs, rfl, hnd, hb, rfl, k1, k2, by rw [hkl, hlen], by rw [hkl]; exact hl.le, fun i kv h => ?_, fun p hp => ?_⟩
    · obtain ⟨hi, rfl⟩ := hkv i kv h
      exact ⟨(pick i hi).choose_spec.1, (pick i hi).choose_spec.2.1⟩
    · have rd : RepDk T I1 (dmerge [] [] l).1 (dmerge [] [] l).2 (mergeK [] kvs) := repDk_merge ⟨rfl, .nil⟩ (by rw [hkl, g1]) fun i p q h1 h2 => by
        obtain ⟨hi, rfl⟩ := hkv i q h2
        exact (pick i hi).choose_spec.2.2 p h1
      have okL : Ok T M A I1 σ (L2.upd H1 p (.dK (mergeK [] kvs))) δ1 := ok1.laidD hp
      have back : H p = none := by
        cases hz : H p with
        | none => rfl
        | some o =>
          obtain ⟨o', z'⟩ := st1.dom p o hz
          rw [hp] at z'
          cases z'
      exact w1 (p, p) I1 _ okL ⟨st1.gro, st1.fre, fun b o h1 h2 => by rw [upd_ne (ne_of_none (st1.kee b o h1 h2) hp)]; exact st1.kee b o h1 h2, st1.mon, fun b o h1 => by
        obtain ⟨o', h2⟩ := st1.dom b o h1
        exact ⟨o', by rw [upd_ne (ne_of_none h2 hp)]; exact h2⟩⟩ ⟨rfl, _, upd_same, rd.1, rd.2⟩ (ok1.fresh hp hp) back back
end DE
set_option Elab.async false
set_option linter.all false
set_option maxRecDepth 100000
namespace DE
open PySem
/-! ### the combinators over plain data: comprehensions, loops -/
theorem noX_of {α : Type} {m : Out α} {a : α} (h : m = .ok a) : noX m = .ok a := by
  rw [h]
  rfl
/-- a comprehension whose parts change nothing -/
theorem compL_pure {t : Tg} {c : FT} {f : FE} {vs : List Nat} {δ0 : Dl} {P : D → Bool} {g : D → D} : ∀ {ds : List D}, (∀ d ∈ ds, ∃ δ1, setTg t d δ0 = .ok δ1 ∧ c δ1 = .ok (P d, δ1) ∧ (P d = true → f δ1 = .ok (.imm (g d), δ1)) ∧ wipeD vs δ1 = .ok δ0) →
    compL t c f vs ds δ0 = .ok ((ds.filter P).map g, δ0)
  | [], _ => rfl
  | d :: ds, h => by
    obtain ⟨δ1, h1, h2, h3, h4⟩ := h d List.mem_cons_self
    have ih := compL_pure (t := t) (c := c) (f := f) (vs := vs) (δ0 := δ0) (P := P) (g := g) (ds := ds) fun e he => h e (List.mem_cons_of_mem _ he)
    unfold compL
    rw [h1, ok_bind, noX_of h2, ok_bind]
    cases hp : P d with
    | true =>
      simp only [if_true, noX_of (h3 hp), ok_bind, takeR, h4, ih, List.filter_cons, hp, List.map_cons]
      rfl
    | false =>
      simp only [h4, ih, ok_bind, List.filter_cons, hp]
      simp
/-- .. whose test may roll dice, told by a relation -/
theorem compF_pure {gi : FI} {t : Tg} {c : FT} {f : FE} {vs : List Nat} {δ δ0 : Dl} {P : D → Bool} {g : D → D} {items : List D} (hg : gi δ = .ok ((items, none), δ)) (hl : lim items.length) (hw : wipeD vs δ = .ok δ0)
    (h : ∀ d ∈ items, ∃ δ1, setTg t d δ0 = .ok δ1 ∧ c δ1 = .ok (P d, δ1) ∧ (P d = true → f δ1 = .ok (.imm (g d), δ1)) ∧ wipeD vs δ1 = .ok δ0) (hb : backD δ vs δ0 = δ) :
    compF gi t c f vs δ = .ok (.lst ((items.filter P).map g), δ) := by
  unfold compF
  rw [hg, ok_bind]
  simp only [hl, if_true, lockD, ok_bind, hw, compL_pure h, unlockD, hb]
  rfl
/-- a loop by an invariant of what is behind and the slots; no turn leaves it -/
theorem forL_inv {t : Tg} {body : FS} (J : List D → Dl → Prop) : ∀ {ds pre : List D} {δ : Dl}, J pre δ → (∀ pre d post δ, pre ++ d :: post = pre ++ d :: post → d ∈ ds → J pre δ → ∃ δ1 δ2, setTg t d δ = .ok δ1 ∧ body δ1 = .ok (.nx, δ2) ∧ J (pre ++ [d]) δ2) →
    ∃ δ', forL t body ds δ = .ok (.nx, δ') ∧ J (pre ++ ds) δ'
  | [], pre, δ, h, _ => ⟨δ, rfl, by simpa using h⟩
  | d :: ds, pre, δ, h, step => by
    obtain ⟨δ1, δ2, h1, h2, h3⟩ := step pre d [] δ rfl List.mem_cons_self h
    obtain ⟨δ', e, j⟩ := forL_inv J (ds := ds) h3 fun pre d post δ e hd => step pre d post δ e (List.mem_cons_of_mem _ hd)
    refine ⟨δ', ?_, by simpa using j⟩
    unfold forL
    rw [h1, ok_bind, h2, ok_bind]
    exact e
/-- the same by numbers -/
theorem forL_at {t : Tg} {body : FS} (J : Nat → Dl → Prop) : ∀ {ds : List D} {n : Nat} {δ : Dl}, J n δ → (∀ i d δ, ds[i]? = some d → J (n + i) δ → ∃ δ1 δ2, setTg t d δ = .ok δ1 ∧ body δ1 = .ok (.nx, δ2) ∧ J (n + i + 1) δ2) → ∃ δ', forL t body ds δ = .ok (.nx, δ') ∧ J (n + ds.length) δ'
  | [], n, δ, h, _ => ⟨δ, rfl, h⟩
  | d :: ds, n, δ, h, step => by
    obtain ⟨δ1, δ2, h1, h2, h3⟩ := step 0 d δ rfl h
    obtain ⟨δ', e, j⟩ := forL_at J (ds := ds) (n := n + 1) h3 fun i d δ e hj => by
      have := step (i + 1) d δ (by simpa using e) (by rw [show n + (i + 1) = n + 1 + i by omega]; exact hj)
      rw [show n + (i + 1) + 1 = n + 1 + i + 1 by omega] at this
      exact this
    refine ⟨δ', ?_, by rw [List.length_cons, show n + (ds.length + 1) = n + 1 + ds.length by omega]; exact j⟩
    unfold forL
    rw [h1, ok_bind, h2, ok_bind]
    exact e
/-- a call that shares its first argument -/
theorem callI_eq {F : FnSem} {fa : FA} {δ δ1 δ2 : Dl} {j : Nat} {qs : List R} {ds : List D} {s : S} {d d' : D} (h1 : fa δ = .ok (.slot j :: qs, δ1)) (h2 : takeRs qs δ1 = .ok (ds, δ2)) (h3 : δ2[j]? = some (some s)) (h4 : s.live = true) (h5 : F (.par s.con :: ds.map S.imm) = .ok (.imm d, some d')) :
    callIF F [] fa δ = .ok (.imm d, δ2.set j (some (s.put d'))) := by
  simp only [callIF, h1, ok_bind, h2, shareF, h3, h4, if_true, List.append_nil, h5]
theorem call_eq {F : FnSem} {fa : FA} {δ δ1 δ2 : Dl} {rs : List R} {ds : List D} {d : D} {p : Option D} (h1 : fa δ = .ok (rs, δ1)) (h2 : takeRs rs δ1 = .ok (ds, δ2)) (h5 : F (ds.map S.imm) = .ok (.imm d, p)) : callF F [] fa δ = .ok (.imm d, δ2) := by
  simp only [callF, h1, ok_bind, h2, List.append_nil, h5]
  rfl
/-! ### step by step -/
theorem seq_nx {f g : FS} {δ δ1 : Dl} (h : f δ = .ok (.nx, δ1)) : seqS f g δ = g δ1 := by
  simp only [seqS, h, ok_bind]
theorem seq_rt {f g : FS} {δ δ1 : Dl} {s : S} (h : f δ = .ok (.rt s, δ1)) : seqS f g δ = .ok (.rt s, δ1) := by
  simp only [seqS, h, ok_bind, pure_ok]
theorem fn_rt {n : Nat} {body : FS} {ss : List S} {δ' : Dl} {s : S} {p : Option D} (h : body (ss.map some ++ List.replicate (n - ss.length) none) = .ok (.rt s, δ')) (hp : parD ss δ' = .ok p) : fnF n body ss = .ok (s, p) := by
  simp only [fnF, h, ok_bind, hp, pure_ok]
theorem fn_nx {n : Nat} {body : FS} {ss : List S} {δ' : Dl} {p : Option D} (h : body (ss.map some ++ List.replicate (n - ss.length) none) = .ok (.nx, δ')) (hp : parD ss δ' = .ok p) : fnF n body ss = .ok (.imm .non, p) := by
  simp only [fnF, h, ok_bind, hp, pure_ok]
theorem for_eq {gi : FI} {t : Tg} {body : FS} {δ δ1 δ2 : Dl} {items : List D} {l : Fl} (h1 : gi δ = .ok ((items, none), δ1)) (h2 : forL t body items δ1 = .ok (l, δ2)) : forF gi t body δ = .ok (l, δ2) := by
  simp only [forF, h1, ok_bind, lockD, h2, pure_ok, unlockD]
theorem set_eq {i : Nat} {f : FE} {δ δ1 : Dl} {d : D} (h : f δ = .ok (.imm d, δ1)) (hf : freeAt δ1 i = true) : setS i f δ = .ok (.nx, δ1.set i (some (.imm d))) := by
  simp only [setS, h, ok_bind, takeR, putS, hf, if_true, pure_ok]
theorem ret_eq {f : FE} {δ δ1 : Dl} {d : D} (h : f δ = .ok (.imm d, δ1)) : retS f δ = .ok (.rt (.imm d), δ1) := by
  simp only [retS, h, ok_bind, takeR, pure_ok]
theorem if_t {t : FT} {f g : FS} {δ δ1 : Dl} (h : t δ = .ok (true, δ1)) : ifS t f g δ = f δ1 := by
  simp only [ifS, h, ok_bind, if_true]
theorem if_f {t : FT} {f g : FS} {δ δ1 : Dl} (h : t δ = .ok (false, δ1)) : ifS t f g δ = g δ1 := by
  simp [ifS, h]
theorem expr_eq {f : FE} {δ δ1 : Dl} {r : R} (h : f δ = .ok (r, δ1)) : exprS f δ = .ok (.nx, δ1) := by
  simp only [exprS, h, ok_bind, pure_ok]
end DE
set_option Elab.async false
set_option linter.all false
set_option maxRecDepth 100000
namespace DE
open PySem
/-! ### comprehensions over one name -/
/-- a slot that holds nothing or a plain value -/
def openAt (δ : Dl) (k : Nat) : Prop := δ[k]? = some none ∨ ∃ d, δ[k]? = some (some (.imm d))
theorem openAt.free {δ : Dl} {k : Nat} (h : openAt δ k) : freeAt δ k = true := by
  unfold freeAt
  rcases h with h | ⟨d, h⟩ <;> rw [h]
theorem openAt.lt {δ : Dl} {k : Nat} (h : openAt δ k) : k < δ.length := freeAt_lt h.free
theorem free_set {δ : Dl} {k : Nat} (h : k < δ.length) {o : Option S} (ho : o = none ∨ ∃ d, o = some (.imm d)) : freeAt (δ.set k o) k = true := by
  unfold freeAt
  rw [List.getElem?_set_self h]
  rcases ho with rfl | ⟨d, rfl⟩ <;> rfl
theorem wipe_one {δ : Dl} {k : Nat} (h : freeAt δ k = true) : wipeD [k] δ = .ok (δ.set k none) := by
  simp only [wipeD, ok_bind, h, if_true]
theorem back_one {δ : Dl} {k : Nat} (h : openAt δ k) : backD δ [k] (δ.set k none) = δ := by
  rcases h with h | ⟨d, h⟩
  · simp only [backD, h]
    exact List.ext_getElem? fun i => by
      rw [List.getElem?_set]
      split
      · rename_i e
        subst e
        obtain ⟨hl, _⟩ := List.getElem?_eq_some_iff.mp h
        rw [if_pos hl, h]
      · rfl
  · simp only [backD, h, List.set_set]
    exact List.ext_getElem? fun i => by
      rw [List.getElem?_set]
      split
      · rename_i e
        subst e
        obtain ⟨hl, _⟩ := List.getElem?_eq_some_iff.mp h
        rw [if_pos hl, h]
      · rfl
theorem comp_nm {gi : FI} {k : Nat} {c : FT} {f : FE} {δ : Dl} {P : D → Bool} {g : D → D} {items : List D} (hg : gi δ = .ok ((items, none), δ)) (hl : lim items.length) (hk : openAt δ k)
    (h : ∀ d ∈ items, c (δ.set k (some (.imm d))) = .ok (P d, δ.set k (some (.imm d))) ∧ (P d = true → f (δ.set k (some (.imm d))) = .ok (.imm (g d), δ.set k (some (.imm d))))) :
    compF gi (.nm k) c f [k] δ = .ok (.lst ((items.filter P).map g), δ) := by
  refine compF_pure hg hl (wipe_one hk.free) (fun d hd => ?_) (back_one hk)
  obtain ⟨h1, h2⟩ := h d hd
  refine ⟨δ.set k (some (.imm d)), ?_, h1, h2, ?_⟩
  · simp only [setTg, putS, free_set hk.lt (.inl rfl), if_true, List.set_set]
  · rw [wipe_one (free_set hk.lt (.inr ⟨d, rfl⟩)), List.set_set]
/-- .. of all -/
theorem comp_all {gi : FI} {k : Nat} {f : FE} {δ : Dl} {g : D → D} {items : List D} (hg : gi δ = .ok ((items, none), δ)) (hl : lim items.length) (hk : openAt δ k)
    (h : ∀ d ∈ items, f (δ.set k (some (.imm d))) = .ok (.imm (g d), δ.set k (some (.imm d)))) : compF gi (.nm k) yesT f [k] δ = .ok (.lst (items.map g), δ) := by
  have := comp_nm (c := yesT) (P := fun _ => true) (g := g) hg hl hk fun d hd => ⟨rfl, fun _ => h d hd⟩
  rw [this, List.filter_eq_self.mpr fun _ _ => rfl]
/-- dict comprehensions with unlike keys -/
theorem dkKeys_new {ks : List DK} {k : DK} (h : k ∉ ks) : dkKeys ks k = ks ++ [k] := by simp [dkKeys, h]
theorem dkVals_new {ks : List DK} {vs : List D} {k : DK} {d : D} (h : k ∉ ks) : dkVals ks vs k d = vs ++ [d] := by simp [dkVals, h]
theorem dcL_pure {k : Nat} {fk fv : FE} {δ : Dl} {kd : D → D} {key : D → DK} {g : D → D} (hk : k < δ.length) (hs : δ[k]? = some none) : ∀ {items : List D} {ks : List DK} {ws : List D},
    (∀ d ∈ items, fk (δ.set k (some (.imm d))) = .ok (.imm (kd d), δ.set k (some (.imm d))) ∧ keyR (.imm (kd d)) = some (key d) ∧ fv (δ.set k (some (.imm d))) = .ok (.imm (g d), δ.set k (some (.imm d)))) →
    (items.map key).Nodup → (∀ d ∈ items, key d ∉ ks) → dcL (.nm k) yesT fk fv [k] items ks ws δ = .ok ((ks ++ items.map key, ws ++ items.map g), δ)
  | [], ks, ws, _, _, _ => by simp [dcL]
  | d :: ds, ks, ws, h, hn, hd => by
    obtain ⟨h1, h2, h3⟩ := h d List.mem_cons_self
    simp only [List.map_cons, List.nodup_cons] at hn
    have hd0 := hd d List.mem_cons_self
    have e0 : δ.set k none = δ := List.ext_getElem? fun i => by
      rw [List.getElem?_set]
      split
      · rename_i e
        subst e
        rw [hs]
      · rfl
    have ih := dcL_pure (fk := fk) (fv := fv) (kd := kd) (key := key) (g := g) hk hs (items := ds) (ks := ks ++ [key d]) (ws := ws ++ [g d]) (fun e he => h e (List.mem_cons_of_mem _ he)) hn.2 fun e he q => by
      rcases List.mem_append.mp q with q | q
      · exact hd e (List.mem_cons_of_mem _ he) q
      · rw [List.mem_singleton] at q
        exact hn.1 (q ▸ List.mem_map_of_mem he)
    have hf : freeAt δ k = true := by unfold freeAt; rw [hs]
    have e1 : setTg (.nm k) d δ = .ok (δ.set k (some (.imm d))) := by simp only [setTg, putS, hf, if_true]
    have e2 : wipeD [k] (δ.set k (some (.imm d))) = .ok δ := by rw [wipe_one (free_set hk (.inr ⟨d, rfl⟩)), List.set_set, e0]
    unfold dcL
    simp only [e1, ok_bind, yesT, noX_ok, if_true, h1, h2, ofO_some, h3, takeR, e2, dkKeys_new hd0, dkVals_new hd0, ih, List.map_cons, List.append_assoc, List.singleton_append]
theorem dc_nm {gi : FI} {k : Nat} {fk fv : FE} {δ : Dl} {kd : D → D} {key : D → DK} {g : D → D} {items : List D} (hg : gi δ = .ok ((items, none), δ)) (hl : lim items.length) (hk : openAt δ k)
    (h : ∀ d ∈ items, fk (δ.set k (some (.imm d))) = .ok (.imm (kd d), δ.set k (some (.imm d))) ∧ keyR (.imm (kd d)) = some (key d) ∧ fv (δ.set k (some (.imm d))) = .ok (.imm (g d), δ.set k (some (.imm d))))
    (hn : (items.map key).Nodup) : dcF gi (.nm k) yesT fk fv [k] δ = .ok (.dk (items.map key) (items.map g), δ) := by
  have h0 : (δ.set k none)[k]? = some none := List.getElem?_set_self hk.lt
  have := dcL_pure (k := k) (δ := δ.set k none) (fk := fk) (fv := fv) (kd := kd) (key := key) (g := g) (by rw [List.length_set]; exact hk.lt) h0 (items := items) (ks := []) (ws := []) (fun d hd => by
    simp only [List.set_set]
    exact h d hd) hn (by simp)
  unfold dcF
  simp only [hg, ok_bind, hl, if_true, lockD, wipe_one hk.free, this, List.nil_append, unlockD, back_one hk, pure_ok]
theorem dkGet_map {α : Type} {key : α → DK} {g : α → D} {x : α} : ∀ {l : List α}, x ∈ l → (l.map key).Nodup → (∀ y ∈ l, key y = key x → y = x) → dkGet (l.map key) (l.map g) (key x) = some (g x)
  | [], h, _, _ => by simp at h
  | y :: l, h, hn, hi => by
    simp only [List.map_cons, dkGet]
    by_cases e : key y = key x
    · rw [if_pos e, hi y List.mem_cons_self e]
    · rw [if_neg e]
      rcases List.mem_cons.mp h with q | q
      · exact absurd (by rw [q]) e
      · simp only [List.map_cons, List.nodup_cons] at hn
        exact dkGet_map q hn.2 fun z hz => hi z (List.mem_cons_of_mem _ hz)
/-- dict(zip(..)) with unlike keys -/
theorem dmerge_new : ∀ {l : List (DK × D)} {ks : List DK} {vs : List D}, (l.map (·.1)).Nodup → (∀ p ∈ l, p.1 ∉ ks) → dmerge ks vs l = (ks ++ l.map (·.1), vs ++ l.map (·.2))
  | [], ks, vs, _, _ => by simp [dmerge]
  | (k, d) :: r, ks, vs, hn, hd => by
    simp only [List.map_cons, List.nodup_cons] at hn
    have h0 := hd (k, d) List.mem_cons_self
    unfold dmerge
    rw [dkKeys_new h0, dkVals_new h0, dmerge_new hn.2 fun p hp q => by
      rcases List.mem_append.mp q with q | q
      · exact hd p (List.mem_cons_of_mem _ hp) q
      · rw [List.mem_singleton] at q
        have q : p.1 = k := q
        exact hn.1 (q ▸ List.mem_map_of_mem hp)]
    simp
theorem cut_from {α : Type} (xs : List α) (i : Nat) : cutL xs (some (i : Int)) none = xs.drop i := by
  unfold cutL
  rw [HT.sIx_nat, HT.sIx_none]
  by_cases h : i ≤ xs.length
  · rw [Nat.min_eq_left h, List.take_of_length_le (by simp)]
  · rw [Nat.min_eq_right (by omega), List.drop_eq_nil_of_le (by omega : xs.length ≤ i)]
    simp
theorem cut_to {α : Type} (xs : List α) (i : Nat) : cutL xs none (some (i : Int)) = xs.take i := by
  unfold cutL
  rw [HT.sIx_nat, HT.sIx_none]
  by_cases h : i ≤ xs.length
  · rw [Nat.min_eq_left h]
    simp
  · rw [Nat.min_eq_right (by omega), List.take_of_length_le (by omega : xs.length ≤ i)]
    simp
theorem items_str (z : List Ch) : itemsD (.str z) = some ((z.map fun c => [c]).map D.str) := by simp [itemsD, List.map_map, Function.comp_def]
theorem items_tup (xs : List D) : itemsD (.tup xs) = some xs := rfl
theorem items_lst (xs : List D) : itemsD (.lst xs) = some xs := rfl
/-- what is walked, at a plain name -/
theorem walk_at {k : Nat} {δ : Dl} {d : D} {its : List D} (h : δ[k]? = some (some (.imm d))) (hi : itemsD d = some its) : walkF (readF k) δ = .ok ((its, none), δ) := by
  simp only [walkF, readF, h, ok_bind, res, hi, ofO_some, srcR, pure_ok]
theorem eqb_str (a b : List Ch) : D.eqb (.str a) (.str b) = (a == b) := by simp only [D.eqb]
theorem any_str (l : List (List Ch)) (a : List Ch) : ((l.map D.str).any fun y => D.eqb y (.str a)) = decide (a ∈ l) := by
  induction l with
  | nil => rfl
  | cons b l ih =>
    simp only [List.map_cons, List.any_cons, ih, eqb_str, List.mem_cons]
    by_cases h : b = a
    · simp [h]
    · have : ¬ a = b := fun e => h e.symm
      simp [h, this]
theorem flats_str (n : Nat) (l : List (List Ch)) : flats n (l.map D.str) = true := by
  induction l with
  | nil => simp only [List.map_nil, flats]
  | cons b l ih => simp only [List.map_cons, flats, ih, D.flat, Bool.and_self]
end DE
set_option Elab.async false
set_option linter.all false
set_option maxRecDepth 100000
namespace DE
open PySem
/-! ### readings, part by part -/
theorem p62 : (2 : Int) ^ 62 = 4611686018427387904 := by decide
theorem okRg_nat (m : Nat) (h : m ≤ 16777216) : okRg (m : Int) = true := by
  unfold okRg
  rw [p62]
  have h1 : decide (-4611686018427387904 ≤ (m : Int)) = true := decide_eq_true (by omega)
  have h2 : decide ((m : Int) < 4611686018427387904) = true := decide_eq_true (by omega)
  rw [h1, h2]
  rfl
abbrev Ev (f : FE) (δ : Dl) (d : D) (δ' : Dl) : Prop := f δ = .ok (.imm d, δ')
abbrev Av (fa : FA) (δ : Dl) (ds : List D) (δ' : Dl) : Prop := fa δ = .ok (ds.map R.imm, δ')
abbrev Nv (f : FN) (δ : Dl) (d : D) (δ' : Dl) : Prop := f δ = .ok (d, δ')
abbrev Tv (t : FT) (δ : Dl) (b : Bool) (δ' : Dl) : Prop := t δ = .ok (b, δ')
abbrev Iv (g : FI) (δ : Dl) (ds : List D) (δ' : Dl) : Prop := g δ = .ok ((ds, none), δ')
abbrev Sv (s : FS) (δ : Dl) (δ' : Dl) : Prop := s δ = .ok (.nx, δ')
abbrev Rv (s : FS) (δ : Dl) (d : D) (δ' : Dl) : Prop := s δ = .ok (.rt (.imm d), δ')
theorem resL_imm (δ : Dl) : ∀ ds : List D, resL δ (ds.map R.imm) = .ok ds
  | [] => rfl
  | d :: ds => by simp only [List.map_cons, resL, res, ok_bind, resL_imm δ ds, pure_ok]
theorem takeRs_imm (δ : Dl) : ∀ ds : List D, takeRs (ds.map R.imm) δ = .ok (ds, δ)
  | [] => rfl
  | d :: ds => by simp only [List.map_cons, takeRs, takeR, ok_bind, takeRs_imm δ ds, pure_ok]
variable {δ δ1 δ2 δ3 : Dl} {f g h fo fa' fb' fc' : FE} {a b c d d0 d1 d2 : D} {fa : FA} {ds es : List D} {o : D → D → Option D} {F : FnSem} {p : Option D} {t u : FT} {k : Bool} {n i j : Nat}
theorem e_read (h : δ[n]? = some (some (.imm d))) : Ev (readF n) δ d δ := by simp only [Ev, readF, h]
theorem e_cst : Ev (cstF d) δ d δ := rfl
theorem e_op2 (h1 : Ev f δ a δ1) (h2 : Ev g δ1 b δ2) (h3 : o a b = some d) : Ev (op2F o f g) δ d δ2 := by
  simp only [Ev] at *
  simp only [op2F, h1, ok_bind, h2, res, h3, ofO_some, pure_ok]
theorem a_nil : Av nilA δ [] δ := rfl
theorem a_cons (h1 : Ev f δ d δ1) (h2 : Av fa δ1 ds δ2) : Av (consA f fa) δ (d :: ds) δ2 := by
  simp only [Ev, Av] at *
  simp only [consA, h1, ok_bind, h2, pure_ok, List.map_cons]
theorem a_one (h1 : Ev f δ d δ1) : Av (consA f nilA) δ [d] δ1 := a_cons h1 a_nil
theorem a_two (h1 : Ev f δ a δ1) (h2 : Ev g δ1 b δ2) : Av (consA f (consA g nilA)) δ [a, b] δ2 := a_cons h1 (a_one h2)
theorem a_three (h1 : Ev f δ a δ1) (h2 : Ev g δ1 b δ2) (h3 : Ev h δ2 c δ3) : Av (consA f (consA g (consA h nilA))) δ [a, b, c] δ3 := a_cons h1 (a_two h2 h3)
theorem e_bi {g : List D → Option D} (h1 : Av fa δ ds δ1) (h2 : g ds = some d) : Ev (biF g fa) δ d δ1 := by
  simp only [Ev, Av] at *
  simp only [biF, h1, ok_bind, resL_imm, h2, ofO_some, pure_ok]
theorem n_bi {g : List D → Option D} (h1 : Av fa δ ds δ1) (h2 : g ds = some d) : Nv (biN g fa) δ d δ1 := by
  simp only [Nv, Av] at *
  simp only [biN, h1, ok_bind, resL_imm, h2, ofO_some, pure_ok]
theorem e_fresh {f : FN} (h1 : Nv f δ d δ1) (h2 : isDk d = false := by rfl) : Ev (freshF f) δ d δ1 := by
  simp only [Nv, Ev] at *
  simp only [freshF, h1, ok_bind, h2, Bool.false_eq_true, if_false, pure_ok]
theorem e_dict {f : FN} (h1 : Nv f δ d δ1) (h2 : isDk d = true := by rfl) : Ev (dictF f) δ d δ1 := by
  simp only [Nv, Ev] at *
  simp only [dictF, h1, ok_bind, h2, if_true, pure_ok]
theorem e_call (h1 : Av fa δ ds δ1) (h2 : F (ds.map .imm) = .ok (.imm d, p)) : Ev (callF F [] fa) δ d δ1 := call_eq h1 (takeRs_imm _ _) h2
theorem e_callI {s : S} {d' : D} (h1 : Av fa δ ds δ1) (h3 : δ1[j]? = some (some s)) (h0 : readF j δ = .ok (.slot j, δ)) (h4 : s.live = true) (h5 : F (.par s.con :: ds.map S.imm) = .ok (.imm d, some d')) :
    Ev (callIF F [] (consA (readF j) fa)) δ d (δ1.set j (some (s.put d'))) := by
  refine callI_eq (j := j) (qs := ds.map R.imm) (ds := ds) (s := s) (δ1 := δ1) ?_ (takeRs_imm _ _) h3 h4 h5
  simp only [Av] at h1
  simp only [consA, h0, ok_bind, h1, pure_ok]
theorem t_bool (h1 : Ev f δ (.bl k) δ1) : Tv (boolF f) δ k δ1 := by
  simp only [Ev, Tv] at *
  simp only [boolF, h1, ok_bind, pure_ok]
theorem t_truth (h1 : Ev f δ d δ1) (h2 : truthD d = some k) : Tv (truthF f) δ k δ1 := by
  simp only [Ev, Tv] at *
  simp only [truthF, h1, ok_bind, res, h2, ofO_some, pure_ok]
theorem t_not (h1 : Tv t δ k δ1) : Tv (notT t) δ (!k) δ1 := by
  simp only [Tv] at *
  simp only [notT, h1, ok_bind, pure_ok]
theorem t_and_t (h1 : Tv t δ true δ1) (h2 : Tv u δ1 k δ2) : Tv (andT t u) δ k δ2 := by
  simp only [Tv] at *
  simp only [andT, h1, ok_bind, if_true, h2]
theorem t_and_f (h1 : Tv t δ false δ1) : Tv (andT t u) δ false δ1 := by
  simp only [Tv] at *
  simp [andT, h1]
theorem t_or_t (h1 : Tv t δ true δ1) : Tv (orT t u) δ true δ1 := by
  simp only [Tv] at *
  simp only [orT, h1, ok_bind, if_true, pure_ok]
theorem t_or_f (h1 : Tv t δ false δ1) (h2 : Tv u δ1 k δ2) : Tv (orT t u) δ k δ2 := by
  simp only [Tv] at *
  simp [orT, h1, h2]
theorem e_and_t (h1 : Ev f δ (.bl true) δ1) (h2 : Ev g δ1 d δ2) : Ev (andF f g) δ d δ2 := by
  simp only [Ev] at *
  simp only [andF, boolF, h1, ok_bind, pure_ok, if_true, h2]
theorem e_and_f (h1 : Ev f δ (.bl false) δ1) : Ev (andF f g) δ (.bl false) δ1 := by
  simp only [Ev] at *
  simp [andF, boolF, h1]
theorem e_or_t (h1 : Ev f δ (.bl true) δ1) : Ev (orF f g) δ (.bl true) δ1 := by
  simp only [Ev] at *
  simp [orF, boolF, h1]
theorem e_or_f (h1 : Ev f δ (.bl false) δ1) (h2 : Ev g δ1 d δ2) : Ev (orF f g) δ d δ2 := by
  simp only [Ev] at *
  simp [orF, boolF, h1, h2]
theorem e_not (h1 : Ev f δ (.bl k) δ1) : Ev (notF f) δ (.bl !k) δ1 := by
  simp only [Ev] at *
  simp [notF, boolF, h1]
theorem e_if_t (h1 : Tv t δ true δ1) (h2 : Ev f δ1 d δ2) : Ev (ifF t f g) δ d δ2 := by
  simp only [Ev, Tv] at *
  simp only [ifF, h1, ok_bind, if_true, h2]
theorem e_if_f (h1 : Tv t δ false δ1) (h2 : Ev g δ1 d δ2) : Ev (ifF t f g) δ d δ2 := by
  simp only [Ev, Tv] at *
  simp [ifF, h1, h2]
theorem e_isi {g : TyD → Option Bool} {y : TyD} (h1 : Ev f δ d δ1) (h2 : tyD d = some y) (h3 : g y = some k) : Ev (isiF g f) δ (.bl k) δ1 := by
  simp only [Ev] at *
  simp only [isiF, h1, ok_bind, res, h2, ofO_some, h3, pure_ok]
theorem e_slot {c i : Nat} {fs : List D} (h1 : Ev f δ (.obj c fs) δ1) (h2 : slotAt fs i = some d) : Ev (slotF c i f) δ d δ1 := by
  simp only [Ev] at *
  simp only [slotF, h1, ok_bind, res, if_true, h2, ofO_some, pure_ok]
theorem e_meth {c : Nat} {gs : List D} (h1 : Ev f δ (.obj c gs) δ1) (h2 : Av fa δ1 ds δ2) (h3 : F ((.obj c gs :: ds).map .imm) = .ok (.imm d, p)) : Ev (methF c F [] f fa) δ d δ2 := by
  simp only [Ev, Av] at *
  simp only [methF, h1, ok_bind, takeR, if_true, h2, takeRs_imm, List.append_nil, h3, pure_ok]
theorem e_prop {c : Nat} {gs : List D} (h1 : Ev f δ (.obj c gs) δ1) (h3 : F [.imm (.obj c gs)] = .ok (.imm d, p)) : Ev (propF c F f) δ d δ1 := e_meth (p := p) h1 a_nil (by simp only [List.map_cons, List.map_nil, h3, noX_ok])
theorem e_mt {ty : String} {g : D → List D → Option D} (h1 : Ev fo δ d0 δ1) (h2 : isTy ty d0 = true) (h3 : Av fa δ1 ds δ2) (h4 : g d0 ds = some d) : Ev (mtF ty g fo fa) δ d δ2 := by
  simp only [Ev, Av] at *
  simp only [mtF, h1, ok_bind, res, h2, if_true, h3, resL_imm, h4, ofO_some, pure_ok]
theorem n_lst (h1 : Av fa δ ds δ1) (h2 : lim ds.length) : Nv (lstN fa) δ (.lst ds) δ1 := by
  simp only [Nv, Av] at *
  simp only [lstN, h1, ok_bind, takeRs_imm, h2, if_true, pure_ok]
theorem e_tup (h1 : Av fa δ ds δ1) (h2 : lim ds.length) : Ev (tupF fa) δ (.tup ds) δ1 := by
  simp only [Ev, Av] at *
  simp only [tupF, h1, ok_bind, takeRs_imm, h2, if_true, pure_ok]
theorem o_no : noO δ = .ok (none, δ) := rfl
theorem o_some {i : Int} (h1 : Ev f δ (.int i) δ1) : someO f δ = .ok (some i, δ1) := by
  simp only [Ev] at *
  simp only [someO, h1, ok_bind, pure_ok]
theorem e_slS {l u : FO} {z : List Ch} {lo hi : Option Int} (h1 : Ev f δ (.str z) δ1) (h2 : l δ1 = .ok (lo, δ2)) (h3 : u δ2 = .ok (hi, δ3)) (h4 : lim z.length) : Ev (slF f l u) δ (.str (cutL z lo hi)) δ3 := by
  simp only [Ev] at *
  simp only [slF, h1, ok_bind, h2, h3, res, cutLD, cutD, h4, if_true, ofO_some, pure_ok]
theorem e_slT {l u : FO} {z : List D} {lo hi : Option Int} (h1 : Ev f δ (.tup z) δ1) (h2 : l δ1 = .ok (lo, δ2)) (h3 : u δ2 = .ok (hi, δ3)) : Ev (slF f l u) δ (.tup (cutL z lo hi)) δ3 := by
  simp only [Ev] at *
  simp only [slF, h1, ok_bind, h2, h3, res, cutLD, cutD, ofO_some, pure_ok]
theorem e_slL {l u : FO} {z : List D} {lo hi : Option Int} (h1 : Ev f δ (.lst z) δ1) (h2 : l δ1 = .ok (lo, δ2)) (h3 : u δ2 = .ok (hi, δ3)) : Ev (slF f l u) δ (.lst (cutL z lo hi)) δ3 := by
  simp only [Ev] at *
  simp only [slF, h1, ok_bind, h2, h3, res, cutLD, pure_ok]
theorem n_sl {l u : FO} {z : List D} {lo hi : Option Int} (h1 : Ev f δ (.lst z) δ1) (h2 : l δ1 = .ok (lo, δ2)) (h3 : u δ2 = .ok (hi, δ3)) : Nv (slN f l u) δ (.lst (cutL z lo hi)) δ3 := by
  simp only [Ev, Nv] at *
  simp only [slN, h1, ok_bind, h2, h3, res, cutLD, ofO_some, pure_ok]
theorem i_walk {its : List D} (h1 : Ev f δ d δ1) (h2 : itemsD d = some its) : Iv (walkF f) δ its δ1 := by
  simp only [Ev, Iv] at *
  simp only [walkF, h1, ok_bind, res, h2, ofO_some, srcR, pure_ok]
theorem i_enum {its : List D} (h1 : Ev f δ d δ1) (h2 : itemsD d = some its) : Iv (enumF (consA f nilA)) δ (pairsD (numD 0 its)) δ1 := by
  simp only [Ev, Iv] at *
  simp only [enumF, consA, nilA, h1, ok_bind, pure_ok, takeR, h2, ofO_some]
theorem i_zip {x y : List D} (h1 : Ev f δ a δ1) (h2 : Ev g δ1 b δ2) (h3 : itemsD a = some x) (h4 : itemsD b = some y) : Iv (zipF (consA f (consA g nilA))) δ (pairsD (x.zip y)) δ2 := by
  simp only [Ev, Iv] at *
  simp only [zipF, consA, nilA, h1, h2, ok_bind, pure_ok, takeR, h3, h4, ofO_some]
theorem i_rangeI {x : Int} {m : Nat} (h1 : Ev f δ (.int x) δ1) (hr : okRg x = true) (hm : x.toNat = m) : Iv (rangeF (consA f nilA)) δ (rngL 0 m) δ1 := by
  simp only [Ev, Iv] at *
  simp only [rangeF, consA, nilA, h1, ok_bind, pure_ok, hr, if_true, hm]
theorem i_range {m : Nat} (h1 : Ev f δ (.int m) δ1) (h2 : m ≤ 16777216) : Iv (rangeF (consA f nilA)) δ (rngL 0 m) δ1 := i_rangeI h1 (okRg_nat m h2) (Int.toNat_natCast m)
theorem i_keys {ks : List DK} {ws : List D} (h1 : Ev f δ (.dk ks ws) δ1) : Iv (keysF f) δ (ks.map keyD) δ1 := by
  simp only [Ev, Iv] at *
  simp only [keysF, h1, ok_bind, pure_ok]
theorem e_isNF {k : Bool} (h1 : Ev f δ d δ1) : Ev (isNF' k f) δ (.bl (isNon d == k)) δ1 := by
  simp only [Ev] at *
  simp only [isNF', h1, ok_bind, res, pure_ok]
theorem t_isN {k : Bool} (h1 : Ev f δ d δ1) : Tv (isNT k f) δ (isNon d == k) δ1 := by
  simp only [Ev, Tv] at *
  simp only [isNT, h1, ok_bind, res, pure_ok]
theorem e_make {c : Nat} {fs : List D} (h1 : Av fa δ ds δ1) (h2 : F (.par (.obj c []) :: ds.map S.imm) = .ok (.imm .non, some (.obj c fs))) : Ev (makeF c F [] fa) δ (.obj c fs) δ1 := by
  simp only [Ev, Av] at *
  simp only [makeF, h1, ok_bind, takeRs_imm, List.append_nil, h2, if_true, pure_ok]
theorem e_own1 {ok : D → Bool} {post : D → Option D} (h1 : Ev f δ a δ1) (h2 : ok a = true) (h3 : F [.imm a] = .ok (.imm c, p)) (h4 : post c = some d) : Ev (ownF ok F post (consA f nilA)) δ d δ1 := by
  simp only [Ev] at *
  simp only [ownF, consA, nilA, h1, ok_bind, pure_ok, takeRs, takeR, h2, List.all_nil, Bool.and_self, if_true, List.map_cons, List.map_nil, h3, h4, ofO_some]
theorem e_own2 {ok : D → Bool} {post : D → Option D} (h1 : Ev f δ a δ1) (h1' : Ev g δ1 b δ2) (h2 : ok a = true) (h2' : ok b = true) (h3 : F [.imm a, .imm b] = .ok (.imm c, p)) (h4 : post c = some d) : Ev (ownF ok F post (two f g)) δ d δ2 := by
  simp only [Ev] at *
  simp only [ownF, two, consA, nilA, h1, h1', ok_bind, pure_ok, takeRs, takeR, h2, h2', List.all_nil, List.all_cons, Bool.and_self, if_true, List.map_cons, List.map_nil, h3, h4, ofO_some]
theorem e_ownIn {c : Nat} {neg : Bool} {k : Bool} (h1 : Ev f δ a δ1) (h2 : Ev g δ1 b δ2) (h3 : isC c b = true) (h4 : F [.imm b, .imm a] = .ok (.imm (.bl k), p)) : Ev (ownInF c F neg f g) δ (.bl (k != neg)) δ2 := by
  simp only [Ev] at *
  simp only [ownInF, h1, h2, ok_bind, takeR, h3, if_true, h4, pure_ok]
theorem e_get {fk fx : FE} {ks : List DK} {ws : List D} {kd : D} {x : DK} (h1 : Ev fo δ (.dk ks ws) δ1) (h2 : Ev fk δ1 kd δ2) (h3 : keyR (.imm kd) = some x) (h4 : Ev fx δ2 a δ3) (h5 : dkGet ks ws x = some d) : Ev (getF fo fk fx) δ d δ3 := by
  simp only [Ev] at *
  simp only [getF, h1, h2, ok_bind, h3, ofO_some, h4, h5, pure_ok]
theorem n_dzip {x y : List D} {l : List (DK × D)} (h1 : Ev f δ a δ1) (h2 : Ev g δ1 b δ2) (h3 : itemsD a = some x) (h4 : itemsD b = some y) (h5 : dzipL (pairsD (x.zip y)) = some l) (h6 : lim (x.zip y).length) (h7 : (l.map (·.1)).Nodup) :
    Nv (dzipN (consA f (consA g nilA))) δ (.dk (l.map (·.1)) (l.map (·.2))) δ2 := by
  simp only [Ev, Nv] at *
  have hl : lim (pairsD (x.zip y)).length := by simpa [pairsD] using h6
  simp only [dzipN, zip2F, consA, nilA, h1, h2, ok_bind, pure_ok, takeR, h3, h4, ofO_some, h5, hl, if_true]
  rw [dmerge_new (ks := []) (vs := []) h7 (fun _ _ => by simp)]
  rfl
/-! statements -/
theorem s_seq {s r : FS} {l : Fl} (h1 : Sv s δ δ1) (h2 : r δ1 = .ok (l, δ2)) : seqS s r δ = .ok (l, δ2) := (seq_nx h1).trans h2
theorem s_rt {s r : FS} {x : S} (h1 : s δ = .ok (.rt x, δ1)) : seqS s r δ = .ok (.rt x, δ1) := seq_rt h1
theorem s_set (h1 : Ev f δ d δ1) (hf : freeAt δ1 n = true := by rfl) : Sv (setS n f) δ (δ1.set n (some (.imm d))) := set_eq h1 hf
theorem s_setN {f : FN} (h1 : Nv f δ d δ1) (hf : freeAt δ1 n = true := by rfl) : Sv (setNS n f) δ (δ1.set n (some (.own d))) := by
  simp only [Nv, Sv] at *
  simp only [setNS, h1, ok_bind, putS, hf, if_true, pure_ok]
theorem s_ret (h1 : Ev f δ d δ1) : Rv (retS f) δ d δ1 := ret_eq h1
theorem s_if_t {s r : FS} {l : Fl} (h1 : Tv t δ true δ1) (h2 : s δ1 = .ok (l, δ2)) : ifS t s r δ = .ok (l, δ2) := (if_t h1).trans h2
theorem s_if_f {s r : FS} {l : Fl} (h1 : Tv t δ false δ1) (h2 : r δ1 = .ok (l, δ2)) : ifS t s r δ = .ok (l, δ2) := (if_f h1).trans h2
theorem s_next : Sv nextS δ δ := rfl
theorem s_expr (h1 : Ev f δ d δ1) : Sv (exprS f) δ δ1 := expr_eq h1
theorem s_for {gi : FI} {tg : Tg} {body : FS} {l : Fl} (h1 : Iv gi δ ds δ1) (h2 : forL tg body ds δ1 = .ok (l, δ2)) : forF gi tg body δ = .ok (l, δ2) := for_eq h1 h2
theorem all_true {α : Type} (l : List α) : allD [.lst (l.map fun _ => D.bl true)] = some (.bl true) := by
  have : blsD (l.map fun _ => D.bl true) = some (l.map fun _ => true) := by
    rw [← bls_of, List.map_map]
    rfl
  simp [allD, this]
theorem all_bls {α : Type} (l : List α) (q : α → Bool) : allD [.lst (l.map fun x => D.bl (q x))] = some (.bl (l.all q)) := by
  have : blsD (l.map fun x => D.bl (q x)) = some (l.map q) := by
    rw [← bls_of, List.map_map]
    rfl
  simp only [allD, this, Option.map_some]
  congr 2
  induction l with
  | nil => rfl
  | cons a l ih => simp
theorem any_bls {α : Type} (l : List α) (q : α → Bool) : anyD [.lst (l.map fun x => D.bl (q x))] = some (.bl (l.any q)) := by
  have : blsD (l.map fun x => D.bl (q x)) = some (l.map q) := by
    rw [← bls_of, List.map_map]
    rfl
  simp only [anyD, this, Option.map_some]
  congr 2
  induction l with
  | nil => rfl
  | cons a l ih => simp
end DE
set_option Elab.async false
set_option linter.all false
set_option maxRecDepth 100000
set_option maxHeartbeats 2000000
namespace K03
open PySem DE
def F__law_roll : FnSem := fnF 5 (seqS (ifS (boolF (op2F gtD (op2F ixD (readF 0) (cstF (.int (0)))) (cstF (.int (0))))) (seqS (setS 2 (op2F modD (biF intD (consA (op2F ixD (readF 0) (cstF (.int (0)))) (nilA))) (readF 1))) (seqS (stoS (readF 0) (cstF (.int (0))) (op2F fdivD (op2F ixD (readF 0) (cstF (.int (0)))) (readF 1))) (retS (readF 2)))) (nextS)) (seqS (stoS (readF 0) (cstF (.int (2))) (op2F addD (op2F ixD (readF 0) (cstF (.int (2)))) (cstF (.int (1))))) (seqS (setS 3 (op2F modD (biF intD (consA (op2F addD (op2F ixD (readF 0) (cstF (.int (1)))) (op2F mulD (cstF (.int (86028121))) (op2F ixD (readF 0) (cstF (.int (2)))))) (nilA))) (cstF (.int (2305843009213693723))))) (seqS (setS 4 (op2F addD (op2F mulD (op2F modD (biF intD (consA (op2F addD (op2F mulD (readF 3) (readF 3)) (op2F mulD (cstF (.int (103))) (op2F ixD (readF 0) (cstF (.int (2)))))) (nilA))) (cstF (.int (2305843009213693669)))) (cstF (.int (6972593)))) (readF 3))) (retS (op2F modD (biF intD (consA (op2F fdivD (readF 4) (cstF (.int (65536)))) (nilA))) (readF 1)))))))
def F__law_mixed : FnSem := fnF 5 (seqS (par2S 2 3 (ownX (biN listD (consA (readF 1) (nilA)))) (ownX (lstN nilA))) (seqS (forF (rangeF (consA (biF lenD (consA (readF 1) (nilA))) (nilA))) (.nm 4) (exprS (muF "list" appD (readF 3) (consA (muF "list" popD (readF 2) (consA (callIF F__law_roll [] (consA (readF 0) (consA (biF lenD (consA (readF 2) (nilA))) (nilA)))) (nilA))) (nilA))))) (retS (readF 3))))
def F__law_any_letters : FnSem := fnF 4 (seqS (setS 3 (op2F addD (readF 1) (callIF F__law_roll [] (consA (readF 0) (consA (op2F addD (op2F subD (readF 2) (readF 1)) (cstF (.int (1)))) (nilA)))))) (retS (mtF "str" joinD (cstF (.str [])) (consA (freshF (biN sortedD (consA (freshF (slN (callIF F__law_mixed [] (consA (readF 0) (consA (freshF (biN listD (consA (cstF (.str [97, 98, 99, 100, 101, 102, 103, 104, 105, 106, 107, 108, 109, 110, 111, 112, 113, 114, 115, 116, 117, 118, 119, 120, 121, 122])) (nilA)))) (nilA)))) (noO) (someO (readF 3)))) (nilA)))) (nilA)))))
def F_is_letter : FnSem := fnF 1 (retS (andF (isiF (isiTab [("NoneType", false), ("bool", false), ("int", false), ("str", true), ("tuple", false), ("list", false), ("dict", false)] []) (readF 0)) (andF (op2F eqD (biF lenD (consA (readF 0) (nilA))) (cstF (.int (1)))) (chainF leD leD (cstF (.str [97])) (readF 0) (cstF (.str [122]))))))
def F_are_ascending : FnSem := fnF 3 (retS (biF allD (consA (freshF (compF (zipF (consA (readF 0) (consA (slF (readF 0) (someO (cstF (.int (1)))) (noO)) (nilA)))) (.tp [(.nm 1), (.nm 2)]) (yesT) (op2F ltD (readF 1) (readF 2)) [1, 2])) (nilA))))
def F_are_letters : FnSem := fnF 2 (retS (andF (isiF (isiTab [("NoneType", false), ("bool", false), ("int", false), ("str", true), ("tuple", false), ("list", false), ("dict", false)] []) (readF 0)) (andF (biF allD (consA (freshF (compF (walkF (readF 0)) (.nm 1) (yesT) (callF F_is_letter [] (consA (readF 1) (nilA))) [1])) (nilA))) (callF F_are_ascending [] (consA (readF 0) (nilA))))))
def F_pairs_of : FnSem := fnF 4 (retS (freshF (comp2F (enumF (consA (readF 0) (nilA))) (.tp [(.nm 1), (.nm 2)]) (yesT) (walkF (slF (readF 0) (someO (op2F addD (readF 1) (cstF (.int (1))))) (noO))) (.nm 3) (yesT) (op2F addD (readF 2) (readF 3)) [1, 2, 3] [3])))
def F_are_conflicts : FnSem := fnF 4 (seqS (ifS (notT (truthF (isiF (isiTab [("NoneType", false), ("bool", false), ("int", false), ("str", false), ("tuple", true), ("list", false), ("dict", false)] []) (readF 1)))) (retS (cstF (.bl false))) (nextS)) (seqS (setS 2 (callF F_pairs_of [] (consA (readF 0) (nilA)))) (retS (andF (biF allD (consA (freshF (compF (walkF (readF 1)) (.nm 3) (yesT) (andF (isiF (isiTab [("NoneType", false), ("bool", false), ("int", false), ("str", true), ("tuple", false), ("list", false), ("dict", false)] []) (readF 3)) (op2F inD (readF 3) (readF 2))) [3])) (nilA))) (callF F_are_ascending [] (consA (readF 1) (nilA)))))))
def F_pair_of : FnSem := fnF 2 (retS (ifF (boolF (op2F ltD (readF 0) (readF 1))) (op2F addD (readF 0) (readF 1)) (op2F addD (readF 1) (readF 0))))
def F_close_row : FnSem := fnF 4 (retS (mtF "str" joinD (cstF (.str [])) (consA (freshF (compF (walkF (readF 0)) (.nm 3) (orT (boolF (op2F eqD (readF 3) (readF 2))) (boolF (op2F inD (callF F_pair_of [] (consA (readF 2) (consA (readF 3) (nilA)))) (readF 1)))) (readF 3) [3])) (nilA))))
def F_Web___init__ : FnSem := fnF 4 (seqS (ifS (orT (notT (truthF (callF F_are_letters [] (consA (readF 1) (nilA))))) (boolF (op2F gtD (biF lenD (consA (readF 1) (nilA))) (cstF (.int (10)))))) (offE) (nextS)) (seqS (ifS (notT (truthF (callF F_are_conflicts [] (consA (readF 1) (consA (readF 2) (nilA)))))) (offE) (nextS)) (seqS (stoSlS 0 2 (readF 0) (readF 1)) (seqS (stoSlS 0 1 (readF 0) (readF 2)) (stoSlS 0 0 (readF 0) (dictF (dcF (walkF (readF 1)) (.nm 3) (yesT) (readF 3) (callF F_close_row [] (consA (readF 1) (consA (readF 2) (consA (readF 3) (nilA))))) [3])))))))
def F__law_pairs : FnSem := fnF 5 (seqS (setNS 1 (lstN nilA)) (seqS (forF (enumF (consA (readF 0) (nilA))) (.tp [(.nm 2), (.nm 3)]) (exprS (muF "list" extD (readF 1) (consA (freshF (compF (walkF (slF (readF 0) (someO (op2F addD (readF 2) (cstF (.int (1))))) (noO))) (.nm 4) (yesT) (op2F addD (readF 3) (readF 4)) [4])) (nilA))))) (retS (readF 1))))
def F__law_some : FnSem := fnF 3 (retS (freshF (compF (walkF (readF 1)) (.nm 2) (boolF (op2F eqD (callIF F__law_roll [] (consA (readF 0) (consA (cstF (.int (2))) (nilA)))) (cstF (.int (0))))) (readF 2) [2])))
def F__law_conflicts : FnSem := fnF 7 (seqS (setS 2 (callF F__law_pairs [] (consA (readF 1) (nilA)))) (seqS (setS 3 (callIF F__law_roll [] (consA (readF 0) (consA (cstF (.int (8))) (nilA))))) (seqS (ifS (boolF (op2F eqD (readF 3) (cstF (.int (0))))) (retS (biF tupleD (consA (callIF F__law_some [] (consA (readF 0) (consA (readF 2) (nilA)))) (nilA)))) (nextS)) (seqS (ifS (boolF (op2F eqD (readF 3) (cstF (.int (1))))) (retS (biF tupleD (consA (freshF (compF (walkF (readF 2)) (.nm 6) (boolF (op2F gtD (callIF F__law_roll [] (consA (readF 0) (consA (cstF (.int (3))) (nilA)))) (cstF (.int (0))))) (readF 6) [6])) (nilA)))) (nextS)) (seqS (ifS (boolF (op2F ltD (biF lenD (consA (readF 2) (nilA))) (cstF (.int (2))))) (retS (biF tupleD (consA (readF 2) (nilA)))) (nextS)) (seqS (setS 4 (callIF F__law_mixed [] (consA (readF 0) (consA (readF 2) (nilA))))) (seqS (setS 5 (op2F addD (cstF (.int (1))) (callIF F__law_roll [] (consA (readF 0) (consA (op2F subD (biF lenD (consA (readF 2) (nilA))) (cstF (.int (1)))) (nilA)))))) (retS (biF tupleD (consA (freshF (biN sortedD (consA (freshF (slN (readF 4) (noO) (someO (readF 5)))) (nilA)))) (nilA)))))))))))
def F_Web_letters : FnSem := fnF 1 (retS (slotF 0 2 (readF 0)))
def F_Web_conflicts : FnSem := fnF 1 (retS (slotF 0 1 (readF 0)))
def F__law_planted : FnSem := fnF 6 (seqS (setS 2 (freshF (slN (callIF F__law_mixed [] (consA (readF 0) (consA (freshF (biN listD (consA (cstF (.str [97, 98, 99, 100, 101, 102, 103, 104, 105, 106, 107, 108, 109, 110, 111, 112, 113, 114, 115, 116, 117, 118, 119, 120, 121, 122])) (nilA)))) (nilA)))) (noO) (someO (biF lenD (consA (propF 0 F_Web_letters (readF 1)) (nilA))))))) (seqS (ifS (boolF (op2F eqD (callIF F__law_roll [] (consA (readF 0) (consA (cstF (.int (2))) (nilA)))) (cstF (.int (0))))) (setS 2 (callIF F__law_mixed [] (consA (readF 0) (consA (freshF (biN listD (consA (propF 0 F_Web_letters (readF 1)) (nilA)))) (nilA))))) (nextS)) (seqS (setS 3 (dictF (dzipN (consA (propF 0 F_Web_letters (readF 1)) (consA (readF 2) (nilA)))))) (seqS (setS 4 (freshF (compF (walkF (propF 0 F_Web_conflicts (readF 1))) (.nm 5) (yesT) (freshF (biN sortedD (consA (freshF (lstN (consA (op2F ixD (readF 3) (op2F ixD (readF 5) (cstF (.int (0))))) (consA (op2F ixD (readF 3) (op2F ixD (readF 5) (cstF (.int (1))))) (nilA))))) (nilA)))) [5]))) (retS (tupF (consA (makeF 0 F_Web___init__ [] (consA (mtF "str" joinD (cstF (.str [])) (consA (freshF (biN sortedD (consA (readF 2) (nilA)))) (nilA))) (consA (biF tupleD (consA (freshF (biN sortedD (consA (freshF (compF (walkF (readF 4)) (.nm 5) (yesT) (mtF "str" joinD (cstF (.str [])) (consA (readF 5) (nilA))) [5])) (nilA)))) (nilA))) (nilA)))) (consA (mtF "str" joinD (cstF (.str [])) (consA (readF 2) (nilA))) (nilA)))))))))
def F_Web_loose : FnSem := fnF 2 (retS (biF tupleD (consA (freshF (compF (walkF (callF F_pairs_of [] (consA (slotF 0 2 (readF 0)) (nilA)))) (.nm 1) (boolF (op2F notinD (readF 1) (slotF 0 1 (readF 0)))) (readF 1) [1])) (nilA))))
def F__law_bent : FnSem := fnF 4 (seqS (par2S 2 3 (ownX (biN listD (consA (propF 0 F_Web_conflicts (readF 1)) (nilA)))) (ownX (biN listD (consA (propF 0 F_Web_loose (readF 1)) (nilA))))) (seqS (ifS (boolF (op2F neD (readF 2) (freshF (lstN nilA)))) (exprS (muF "list" popD (readF 2) (consA (callIF F__law_roll [] (consA (readF 0) (consA (biF lenD (consA (readF 2) (nilA))) (nilA)))) (nilA)))) (nextS)) (seqS (ifS (andT (boolF (op2F neD (readF 3) (freshF (lstN nilA)))) (boolF (op2F gtD (callIF F__law_roll [] (consA (readF 0) (consA (cstF (.int (4))) (nilA)))) (cstF (.int (0)))))) (exprS (muF "list" appD (readF 2) (consA (muF "list" popD (readF 3) (consA (callIF F__law_roll [] (consA (readF 0) (consA (biF lenD (consA (readF 3) (nilA))) (nilA)))) (nilA))) (nilA)))) (nextS)) (retS (makeF 0 F_Web___init__ [] (consA (propF 0 F_Web_letters (readF 1)) (consA (biF tupleD (consA (freshF (biN sortedD (consA (readF 2) (nilA)))) (nilA))) (nilA))))))))
def F_require_web : FnSem := fnF 1 (ifS (notT (truthF (isiF (isiTab [("NoneType", false), ("bool", false), ("int", false), ("str", false), ("tuple", false), ("list", false), ("dict", false)] [(0, true)]) (readF 0)))) (offE) (nextS))
def F_can_become : FnSem := fnF 8 (seqS (ifS (boolF (op2F neD (biF lenD (consA (op2F ixD (slotF 0 0 (readF 0)) (readF 2)) (nilA))) (biF lenD (consA (op2F ixD (slotF 0 0 (readF 1)) (readF 3)) (nilA))))) (retS (cstF (.bl false))) (nextS)) (zipAllS 5 (consA (slotF 0 2 (readF 0)) (consA (readF 4) (nilA))) (.tp [(.nm 6), (.nm 7)]) (op2F eqD (op2F inD (readF 6) (op2F ixD (slotF 0 0 (readF 0)) (readF 2))) (op2F inD (readF 7) (op2F ixD (slotF 0 0 (readF 1)) (readF 3)))) [6, 7]))
def F_renamed_behind : Nat → FnSem
  | 0 => fnF 6 offE
  | n + 1 => let Frec := F_renamed_behind n; fnF 6 (seqS (ifS (boolF (op2F eqD (biF lenD (consA (readF 2) (nilA))) (biF lenD (consA (slotF 0 2 (readF 0)) (nilA))))) (retS (readF 2)) (nextS)) (seqS (setS 3 (op2F ixD (slotF 0 2 (readF 0)) (biF lenD (consA (readF 2) (nilA))))) (seqS (forF (walkF (slotF 0 2 (readF 1))) (.nm 4) (ifS (andT (boolF (op2F notinD (readF 4) (readF 2))) (truthF (callF F_can_become [] (consA (readF 0) (consA (readF 1) (consA (readF 3) (consA (readF 4) (consA (readF 2) (nilA))))))))) (seqS (setS 5 (callF Frec [] (consA (readF 0) (consA (readF 1) (consA (op2F addD (readF 2) (readF 4)) (nilA)))))) (ifS (isNT false (readF 5)) (retS (readF 5)) (nextS))) (nextS))) (retS (cstF .non)))))
def F_renaming : FnSem := fnF 3 (seqS (exprS (callF F_require_web [] (consA (readF 0) (nilA)))) (seqS (exprS (callF F_require_web [] (consA (readF 1) (nilA)))) (seqS (ifS (orT (boolF (op2F neD (biF lenD (consA (slotF 0 2 (readF 0)) (nilA))) (biF lenD (consA (slotF 0 2 (readF 1)) (nilA))))) (boolF (op2F neD (biF lenD (consA (slotF 0 1 (readF 0)) (nilA))) (biF lenD (consA (slotF 0 1 (readF 1)) (nilA)))))) (retS (cstF .non)) (nextS)) (seqS (setS 2 (callF (F_renamed_behind 12) [] (consA (readF 0) (consA (readF 1) (consA (cstF (.str [])) (nilA)))))) (retS (ifF (isNT true (readF 2)) (cstF .non) (dictF (dzipN (consA (slotF 0 2 (readF 0)) (consA (readF 2) (nilA)))))))))))
def F_Web___len__ : FnSem := fnF 1 (retS (biF lenD (consA (slotF 0 2 (readF 0)) (nilA))))
def F__law_orders : FnSem := fnF 6 (seqS (setS 1 (freshF (lstN (consA (freshF (lstN nilA)) (nilA))))) (seqS (forF (walkF (readF 0)) (.nm 2) (seqS (setNS 3 (lstN nilA)) (seqS (forF (walkF (readF 1)) (.nm 4) (exprS (muF "list" extD (readF 3) (consA (freshF (compF (rangeF (consA (op2F addD (biF lenD (consA (readF 4) (nilA))) (cstF (.int (1)))) (nilA))) (.nm 5) (yesT) (op2F addD (op2F addD (freshF (slN (readF 4) (noO) (someO (readF 5)))) (freshF (lstN (consA (readF 2) (nilA))))) (freshF (slN (readF 4) (someO (readF 5)) (noO)))) [5])) (nilA))))) (setS 1 (freshF (biN listD (consA (readF 3) (nilA)))))))) (retS (readF 1))))
def F__law_strings : FnSem := fnF 2 (retS (freshF (compF (walkF (callF F__law_orders [] (consA (freshF (biN listD (consA (readF 0) (nilA)))) (nilA)))) (.nm 1) (yesT) (mtF "str" joinD (cstF (.str [])) (consA (readF 1) (nilA))) [1])))
def F__law_leads : FnSem := fnF 6 (seqS (ifS (orT (boolF (op2F neD (mtF "str" joinD (cstF (.str [])) (consA (freshF (biN sortedD (consA (readF 2) (nilA)))) (nilA))) (propF 0 F_Web_letters (readF 1)))) (boolF (op2F neD (biF lenD (consA (readF 2) (nilA))) (biF lenD (consA (propF 0 F_Web_letters (readF 0)) (nilA)))))) (retS (cstF (.bl false))) (nextS)) (seqS (setS 3 (dictF (dzipN (consA (propF 0 F_Web_letters (readF 0)) (consA (readF 2) (nilA)))))) (seqS (setS 4 (freshF (compF (walkF (propF 0 F_Web_conflicts (readF 0))) (.nm 5) (yesT) (freshF (biN sortedD (consA (freshF (lstN (consA (op2F ixD (readF 3) (op2F ixD (readF 5) (cstF (.int (0))))) (consA (op2F ixD (readF 3) (op2F ixD (readF 5) (cstF (.int (1))))) (nilA))))) (nilA)))) [5]))) (retS (op2F eqD (freshF (biN sortedD (consA (freshF (compF (walkF (readF 4)) (.nm 5) (yesT) (mtF "str" joinD (cstF (.str [])) (consA (readF 5) (nilA))) [5])) (nilA)))) (freshF (biN listD (consA (propF 0 F_Web_conflicts (readF 1)) (nilA)))))))))
def F_Web___contains__ : FnSem := fnF 2 (retS (andF (callF F_is_letter [] (consA (readF 1) (nilA))) (op2F inD (readF 1) (slotF 0 2 (readF 0)))))
def F_Web_renamed : FnSem := fnF 7 (seqS (ifS (orT (notT (truthF (isiF (isiTab [("NoneType", false), ("bool", false), ("int", false), ("str", false), ("tuple", false), ("list", false), ("dict", true)] []) (readF 1)))) (notT (truthF (biF allD (consA (freshF (compF (keysF (readF 1)) (.nm 4) (yesT) (andF (ownInF 0 F_Web___contains__ false (readF 4) (readF 0)) (callF F_is_letter [] (consA (op2F ixD (readF 1) (readF 4)) (nilA)))) [4])) (nilA)))))) (offE) (nextS)) (seqS (setS 2 (dictF (dcF (walkF (slotF 0 2 (readF 0))) (.nm 5) (yesT) (readF 5) (getF (readF 1) (readF 5) (readF 5)) [5]))) (seqS (setS 3 (mtF "str" joinD (cstF (.str [])) (consA (freshF (biN sortedD (consA (freshF (compF (walkF (slotF 0 2 (readF 0))) (.nm 5) (yesT) (op2F ixD (readF 2) (readF 5)) [5])) (nilA)))) (nilA)))) (seqS (ifS (notT (truthF (callF F_are_ascending [] (consA (readF 3) (nilA))))) (offE) (nextS)) (retS (makeF 0 F_Web___init__ [] (consA (readF 3) (consA (biF tupleD (consA (freshF (biN sortedD (consA (freshF (compF (walkF (slotF 0 1 (readF 0))) (.nm 6) (yesT) (callF F_pair_of [] (consA (op2F ixD (readF 2) (op2F ixD (readF 6) (cstF (.int (0))))) (consA (op2F ixD (readF 2) (op2F ixD (readF 6) (cstF (.int (1))))) (nilA)))) [6])) (nilA)))) (nilA))) (nilA)))))))))
def F_Web___eq__ : FnSem := fnF 2 (retS (andF (isiF (isiTab [("NoneType", false), ("bool", false), ("int", false), ("str", false), ("tuple", false), ("list", false), ("dict", false)] [(0, true)]) (readF 1)) (andF (op2F eqD (slotF 0 2 (readF 0)) (slotF 0 2 (readF 1))) (op2F eqD (slotF 0 1 (readF 0)) (slotF 0 1 (readF 1))))))
def F__law_told_right : FnSem := fnF 7 (seqS (setS 3 (callF F_renaming [] (consA (readF 0) (consA (readF 1) (nilA))))) (seqS (ifS (isNT true (readF 3)) (seqS (ifS (isNT false (readF 2)) (retS (cstF (.bl false))) (nextS)) (retS (orF (op2F gtD (ownF (isC 0) F_Web___len__ smallNat (consA (readF 0) nilA)) (cstF (.int (5)))) (notF (biF anyD (consA (freshF (compF (walkF (callF F__law_strings [] (consA (propF 0 F_Web_letters (readF 1)) (nilA)))) (.nm 5) (yesT) (callF F__law_leads [] (consA (readF 0) (consA (readF 1) (consA (readF 5) (nilA))))) [5])) (nilA))))))) (nextS)) (seqS (ifS (orT (notT (truthF (isiF (isiTab [("NoneType", false), ("bool", false), ("int", false), ("str", false), ("tuple", false), ("list", false), ("dict", true)] []) (readF 3)))) (boolF (op2F neD (freshF (biN listD (consA (readF 3) (nilA)))) (freshF (biN listD (consA (propF 0 F_Web_letters (readF 0)) (nilA))))))) (retS (cstF (.bl false))) (nextS)) (seqS (setS 4 (mtF "str" joinD (cstF (.str [])) (consA (freshF (compF (walkF (propF 0 F_Web_letters (readF 0))) (.nm 6) (yesT) (op2F ixD (readF 3) (readF 6)) [6])) (nilA)))) (seqS (ifS (orT (notT (truthF (callF F__law_leads [] (consA (readF 0) (consA (readF 1) (consA (readF 4) (nilA))))))) (andT (isNT false (readF 2)) (boolF (op2F gtD (readF 4) (readF 2))))) (retS (cstF (.bl false))) (nextS)) (seqS (ifS (boolF (ownF (isC 0) F_Web___eq__ notBl (two (methF 0 F_Web_renamed [] (readF 0) (consA (readF 3) (nilA))) (readF 1)))) (retS (cstF (.bl false))) (nextS)) (seqS (ifS (boolF (op2F gtD (ownF (isC 0) F_Web___len__ smallNat (consA (readF 0) nilA)) (cstF (.int (5))))) (retS (cstF (.bl true))) (nextS)) (retS (op2F eqD (readF 4) (biF minLD (consA (freshF (compF (walkF (callF F__law_strings [] (consA (propF 0 F_Web_letters (readF 1)) (nilA)))) (.nm 5) (truthF (callF F__law_leads [] (consA (readF 0) (consA (readF 1) (consA (readF 5) (nilA)))))) (readF 5) [5])) (nilA))))))))))))
def F__law_case : FnSem := fnF 8 (seqS (setS 1 (callIF F__law_any_letters [] (consA (readF 0) (consA (cstF (.int (0))) (consA (ifF (boolF (op2F gtD (callIF F__law_roll [] (consA (readF 0) (consA (cstF (.int (3))) (nilA)))) (cstF (.int (0))))) (cstF (.int (5))) (cstF (.int (8)))) (nilA)))))) (seqS (setS 2 (makeF 0 F_Web___init__ [] (consA (readF 1) (consA (callIF F__law_conflicts [] (consA (readF 0) (consA (readF 1) (nilA)))) (nilA))))) (seqS (asgT (.tp [(.nm 3), (.nm 4)]) (callIF F__law_planted [] (consA (readF 0) (consA (readF 2) (nilA))))) (seqS (par2S 5 6 (immX (callIF F__law_bent [] (consA (readF 0) (consA (readF 3) (nilA))))) (immX (callIF F__law_any_letters [] (consA (readF 0) (consA (cstF (.int (0))) (consA (cstF (.int (5))) (nilA))))))) (seqS (setS 7 (makeF 0 F_Web___init__ [] (consA (readF 6) (consA (callIF F__law_conflicts [] (consA (readF 0) (consA (readF 6) (nilA)))) (nilA))))) (seqS (ifS (orT (notT (truthF (callF F__law_told_right [] (consA (readF 2) (consA (readF 3) (consA (readF 4) (nilA))))))) (notT (truthF (callF F__law_told_right [] (consA (readF 2) (consA (readF 5) (consA (cstF .non) (nilA)))))))) (retS (cstF (.bl false))) (nextS)) (seqS (ifS (orT (notT (truthF (callF F__law_told_right [] (consA (readF 2) (consA (readF 7) (consA (cstF .non) (nilA))))))) (notT (truthF (callF F__law_told_right [] (consA (readF 2) (consA (readF 2) (consA (propF 0 F_Web_letters (readF 2)) (nilA)))))))) (retS (cstF (.bl false))) (nextS)) (seqS (ifS (boolF (op2F neD (isNF' true (callF F_renaming [] (consA (readF 3) (consA (readF 2) (nilA))))) (isNF' true (callF F_renaming [] (consA (readF 2) (consA (readF 3) (nilA))))))) (retS (cstF (.bl false))) (nextS)) (seqS (ifS (andT (boolF (op2F neD (biF lenD (consA (propF 0 F_Web_conflicts (readF 5)) (nilA))) (biF lenD (consA (propF 0 F_Web_conflicts (readF 2)) (nilA))))) (isNT false (callF F_renaming [] (consA (readF 2) (consA (readF 5) (nilA)))))) (retS (cstF (.bl false))) (nextS)) (retS (andF (ownF (isC 0) F_Web___eq__ someD (two (readF 2) (makeF 0 F_Web___init__ [] (consA (readF 1) (consA (propF 0 F_Web_conflicts (readF 2)) (nilA)))))) (op2F eqD (propF 0 F_Web_letters (readF 2)) (readF 1)))))))))))))
def F__law_dice : FnSem := fnF 4 (seqS (setS 2 (ifF (boolF (op2F ltD (readF 1) (biF lenD (consA (readF 0) (nilA))))) (biF intD (consA (op2F ixD (readF 0) (readF 1)) (nilA))) (op2F addD (op2F mulD (cstF (.int (83))) (readF 1)) (cstF (.int (47)))))) (seqS (setS 3 (op2F modD (biF max2D (consA (cstF (.int (0))) (consA (op2F subD (biF absD (consA (readF 2) (nilA))) (op2F powD (cstF (.int (10))) (cstF (.int (16))))) (nilA)))) (op2F mulD (op2F powD (cstF (.int (10))) (cstF (.int (60)))) (op2F powD (cstF (.int (10))) (cstF (.int (60))))))) (retNewS (lstN (consA (readF 3) (consA (op2F addD (op2F addD (op2F addD (op2F mulD (op2F modD (biF absD (consA (readF 2) (nilA))) (cstF (.int (1152921504606846599)))) (cstF (.int (61)))) (op2F mulD (cstF (.int (787))) (readF 1))) (op2F mulD (cstF (.int (41))) (biF intD (consA (op2F ltD (readF 2) (cstF (.int (0)))) (nilA))))) (cstF (.int (7)))) (consA (cstF (.int (0))) (nilA))))))))
def F_law : FnSem := fnF 2 (seqS (forF (rangeF (consA (biF max2D (consA (cstF (.int (1))) (consA (biF min2D (consA (cstF (.int (3))) (consA (biF lenD (consA (readF 0) (nilA))) (nilA)))) (nilA)))) (nilA))) (.nm 1) (ifS (notT (truthF (callFrF F__law_case (callNF F__law_dice [] (consA (readF 0) (consA (readF 1) (nilA))))))) (retS (cstF (.bl false))) (nextS))) (retS (op2F eqDkD (callF F_renaming [] (consA (makeF 0 F_Web___init__ [.str [], .tup []] nilA) (consA (makeF 0 F_Web___init__ [.str [], .tup []] nilA) (nilA)))) (dictF (dk0N)))))
end K03
set_option Elab.async false
set_option linter.all false
set_option maxRecDepth 100000
namespace K03
open PySem DE
/-! ### the data functions, one by one -/
def lt2 (a b : List Ch) : List Ch := if a < b then a ++ b else b ++ a
theorem f_pair_of (a b : List Ch) (h : lim (a.length + b.length)) : F_pair_of [.imm (.str a), .imm (.str b)] = .ok (.imm (.str (lt2 a b)), none) := by
  unfold F_pair_of lt2
  by_cases hl : a < b <;> simp [fnF, retS, ifF, boolF, op2F, readF, res, ltD, addD, takeR, parD, h, hl, Nat.add_comm b.length]
def isLow (c : Ch) : Bool := (!decide ([c] < [(97 : Ch)])) && !decide ([(122 : Ch)] < [c])
theorem f_is_letter1 (c : Ch) : F_is_letter [.imm (.str [c])] = .ok (.imm (.bl (isLow c)), none) := by
  unfold F_is_letter isLow
  simp [fnF, retS, andF, boolF, isiF, tyD, isiTab, List.lookup, op2F, biF, consA, nilA, resL, lenD, eqD, D.flat, D.eqb, chainF, leD, cstF, readF, res, takeR, parD, lim]
  cases h1 : decide ([c] < [(97 : Ch)]) <;> cases h2 : decide ([(122 : Ch)] < [c]) <;> simp_all
/-- the dice -/
def diceD (a b c : Int) : D := .lst [.int a, .int b, .int c]
theorem f_roll (a b c t : Int) (h0 : 0 < t) (h1 : t < 1073741824) : ∃ r a' c', F__law_roll [.par (diceD a b c), .imm (.int t)] = .ok (.imm (.int r), some (diceD a' b c')) ∧ 0 ≤ r ∧ r < t := by
  unfold F__law_roll diceD
  have hg : ∀ x : Int, 0 ≤ x % t ∧ x % t < t := fun x => ⟨Int.emod_nonneg x (by omega), Int.emod_lt_of_pos x h0⟩
  by_cases hl : 0 < a
  · refine ⟨a % t, a / t, c, ?_, (hg _).1, (hg _).2⟩
    simp [fnF, seqS, ifS, retS, boolF, op2F, biF, consA, nilA, resL, intD, ixD, L2.ixN, L2.atI, gtD, ltD, cstF, readF, res, takeR, parD, hl, setS, putS, freeAt, modD, fdivD, h0, h1, stoS, stoP, putIx, S.put, S.live, S.con]
  · obtain ⟨one, e1⟩ : ∃ one, one = (b + 86028121 * (c + 1)) % 2305843009213693723 := ⟨_, rfl⟩
    have s1 : smallI one = true := by
      have := Int.emod_nonneg (b + 86028121 * (c + 1)) (by decide : (2305843009213693723 : Int) ≠ 0)
      have := Int.emod_lt_of_pos (b + 86028121 * (c + 1)) (by decide : (0 : Int) < 2305843009213693723)
      simp only [smallI, Bool.and_eq_true, decide_eq_true_eq]
      omega
    refine ⟨((one * one + 103 * (c + 1)) % 2305843009213693669 * 6972593 + one) / 65536 % t, a, c + 1, ?_, hg _⟩
    have k1 : smallI 86028121 = true := by decide
    have k2 : smallI 103 = true := by decide
    have k3 : smallI 6972593 = true := by decide
    simp [fnF, seqS, ifS, retS, boolF, op2F, biF, consA, nilA, resL, intD, ixD, L2.ixN, L2.atI, gtD, ltD, cstF, readF, res, takeR, parD, hl, setS, putS, freeAt, modD, fdivD, addD, mulD, k1, k2, k3, s1, ← e1, h0, h1, stoS, stoP, putIx, S.put, S.live, S.con, nextS]
end K03
set_option Elab.async false
set_option linter.all false
set_option maxRecDepth 100000
namespace K03
open PySem DE
theorem perm_erase {α : Type} : ∀ (l : List α) (m : Nat) (h : m < l.length), l.Perm (l[m] :: l.eraseIdx m)
  | [], _, h => by simp at h
  | x :: l, 0, _ => by simp
  | x :: l, m + 1, h => by
    have h' : m < l.length := by simpa using h
    simp only [List.getElem_cons_succ, List.eraseIdx_cons_succ]
    exact ((perm_erase l m h').cons x).trans (List.Perm.swap ..)
/-- a slot that may be written -/
def free1 (k : Option S) : Prop := k = none ∨ ∃ d, k = some (.imm d)
theorem rngL_mem : ∀ (n : Nat) (lo : Int) (d : D), d ∈ rngL lo n → ∃ i, d = .int i
  | 0, _, d, h => by simp [rngL] at h
  | n + 1, lo, d, h => by
    rcases List.mem_cons.mp h with rfl | h
    · exact ⟨_, rfl⟩
    · exact rngL_mem n _ d h
theorem turn_mixed {a b c : Int} {xs left found : List D} {k : Option S} {i : Int} (hk : free1 k) (hl : 0 < left.length) (hn : left.length + found.length < 16777216) :
    ∃ a' c' y left', y ∈ left ∧ left.Perm (y :: left') ∧ exprS (muF "list" appD (readF 3) (consA (muF "list" popD (readF 2) (consA (callIF F__law_roll [] (consA (readF 0) (consA (biF lenD (consA (readF 2) (nilA))) (nilA)))) (nilA))) (nilA)))
      [some (.par (diceD a b c)), some (.imm (.lst xs)), some (.own (.lst left)), some (.own (.lst found)), some (.imm (.int i))] =
      .ok (.nx, [some (.par (diceD a' b c')), some (.imm (.lst xs)), some (.own (.lst left')), some (.own (.lst (found ++ [y]))), some (.imm (.int i))]) := by
  obtain ⟨r, a', c', hr, r0, r1⟩ := f_roll a b c (left.length : Int) (by omega) (by omega)
  obtain ⟨m, rfl⟩ : ∃ m : Nat, r = (m : Int) := ⟨r.toNat, by omega⟩
  have hm : m < left.length := by omega
  have e1 : callIF F__law_roll [] (consA (readF 0) (consA (biF lenD (consA (readF 2) (nilA))) (nilA))) [some (.par (diceD a b c)), some (.imm (.lst xs)), some (.own (.lst left)), some (.own (.lst found)), some (.imm (.int i))] =
      .ok (.imm (.int m), [some (.par (diceD a' b c')), some (.imm (.lst xs)), some (.own (.lst left)), some (.own (.lst found)), some (.imm (.int i))]) :=
    callI_eq (j := 0) (qs := [.imm (.int left.length)]) (ds := [.int left.length]) (s := .par (diceD a b c)) (δ1 := [some (.par (diceD a b c)), some (.imm (.lst xs)), some (.own (.lst left)), some (.own (.lst found)), some (.imm (.int i))])
      (δ2 := [some (.par (diceD a b c)), some (.imm (.lst xs)), some (.own (.lst left)), some (.own (.lst found)), some (.imm (.int i))]) (by
        have : lim left.length := by unfold lim; omega
        simp [consA, readF, biF, nilA, resL, res, lenD, S.con, this]) (by simp [takeRs, takeR]) rfl rfl hr
  have hx : L2.ixN left.length (m : Int) = some m := by
    unfold L2.ixN
    simp [hm]
  refine ⟨a', c', left[m], left.eraseIdx m, List.getElem_mem hm, ?_, ?_⟩
  · exact perm_erase left m hm
  · have h2 : found.length < 16777216 := by omega
    simp [exprS, muF, readF, consA, nilA, res, S.con, isTy, e1, takeRs, takeR, muP, popD, hx, hm, S.live, S.put, appD, h2]

theorem f_mixed (a b c : Int) (xs : List D) (hn : xs.length < 16777216) : ∃ a' c' ys, F__law_mixed [.par (diceD a b c), .imm (.lst xs)] = .ok (.imm (.lst ys), some (diceD a' b c')) ∧ ys.Perm xs := by
  have hl : lim xs.length := by unfold lim; omega
  let J : Nat → Dl → Prop := fun n δ => ∃ a' c' left found k, δ = [some (.par (diceD a' b c')), some (.imm (.lst xs)), some (.own (.lst left)), some (.own (.lst found)), k] ∧ free1 k ∧ (left ++ found).Perm xs ∧ found.length = n
  obtain ⟨δ', e, j⟩ := forL_at (t := .nm 4) (body := exprS (muF "list" appD (readF 3) (consA (muF "list" popD (readF 2) (consA (callIF F__law_roll [] (consA (readF 0) (consA (biF lenD (consA (readF 2) (nilA))) (nilA)))) (nilA))) (nilA)))) J (ds := rngL 0 xs.length) (n := 0)
    (δ := [some (.par (diceD a b c)), some (.imm (.lst xs)), some (.own (.lst xs)), some (.own (.lst [])), none]) ⟨a, c, xs, [], none, rfl, .inl rfl, by simp, rfl⟩ (by
      rintro i d δ hd ⟨a1, c1, left, found, k, rfl, hk, hp, hf⟩
      obtain ⟨z, rfl⟩ := rngL_mem _ _ _ (List.mem_of_getElem? hd)
      have hi : i < xs.length := by
        have := (List.getElem?_eq_some_iff.mp hd).1
        rwa [rngL_len] at this
      have hlen := hp.length_eq
      rw [List.length_append] at hlen
      obtain ⟨a2, c2, y, left', hy, hpl, ht⟩ := turn_mixed (a := a1) (b := b) (c := c1) (xs := xs) (left := left) (found := found) (i := z) hk (by omega) (by omega)
      refine ⟨_, _, ?_, ht, a2, c2, left', found ++ [y], some (.imm (.int z)), rfl, .inr ⟨_, rfl⟩, ?_, by simp; omega⟩
      · rcases hk with rfl | ⟨d, rfl⟩ <;> simp [setTg, putS, freeAt]
      · refine List.Perm.trans ?_ hp
        have : (left' ++ (found ++ [y])).Perm (y :: (left' ++ found)) := by
          rw [← List.append_assoc]
          exact List.perm_append_singleton y _
        exact this.trans (hpl.symm.append_right found))
  obtain ⟨a1, c1, left, found, k, rfl, hk, hp, hf⟩ := j
  have hl0 : left = [] := by
    have := hp.length_eq
    rw [List.length_append, hf, rngL_len] at this
    exact List.length_eq_zero_iff.mp (by omega)
  subst hl0
  refine ⟨a1, c1, found, ?_, by simpa using hp⟩
  have z0 : lim ([] : List D).length := by unfold lim; simp
  have e0 : par2S 2 3 (ownX (biN listD (consA (readF 1) (nilA)))) (ownX (lstN nilA)) [some (.par (diceD a b c)), some (.imm (.lst xs)), none, none, none] =
      .ok (.nx, [some (.par (diceD a b c)), some (.imm (.lst xs)), some (.own (.lst xs)), some (.own (.lst [])), none]) := by
    simp only [par2S, xX, ownX, biN, consA, nilA, readF, resL, res, S.con, listD, walkD, itemsD, lstN, takeRs, z0, if_true, ok_bind, pure_ok, List.getElem?_cons_succ, List.getElem?_cons_zero, Option.map, ofO_some, okX]
    rfl
  have e1 : rangeF (consA (biF lenD (consA (readF 1) (nilA))) (nilA)) [some (.par (diceD a b c)), some (.imm (.lst xs)), some (.own (.lst xs)), some (.own (.lst [])), none] = .ok ((rngL 0 xs.length, none), [some (.par (diceD a b c)), some (.imm (.lst xs)), some (.own (.lst xs)), some (.own (.lst [])), none]) :=
    i_range (e_bi (a_one (e_read rfl)) rfl) (by omega)
  have e2 : retS (readF 3) [some (.par (diceD a1 b c1)), some (.imm (.lst xs)), some (.own (.lst [])), some (.own (.lst found)), k] = .ok (.rt (.imm (.lst found)), [some (.par (diceD a1 b c1)), some (.imm (.lst xs)), some (.own (.lst [])), some (.imm (.lst found)), k]) := rfl
  unfold F__law_mixed
  refine fn_rt (δ' := [some (.par (diceD a1 b c1)), some (.imm (.lst xs)), some (.own (.lst [])), some (.imm (.lst found)), k]) ?_ rfl
  exact (seq_nx e0).trans ((seq_nx (for_eq e1 e)).trans e2)
end K03
set_option Elab.async false
set_option linter.all false
set_option maxRecDepth 100000
namespace K03
open DE
/-! ### webs, plainly -/
structure Wb where
  ls : List Ch
  cs : List (List Ch)
def prs : List Ch → List (List Ch)
  | [] => []
  | a :: r => r.map (fun b => [a, b]) ++ prs r
structure Wb.Ok (w : Wb) : Prop where
  asc : w.ls.Pairwise (· < ·)
  low : ∀ c ∈ w.ls, isLow c = true
  few : w.ls.length ≤ 10
  cas : w.cs.Pairwise (· < ·)
  sub : ∀ p ∈ w.cs, p ∈ prs w.ls
def adj (w : Wb) (x y : Ch) : Bool := decide (lt2 [x] [y] ∈ w.cs)
def row (w : Wb) (x : Ch) : List Ch := w.ls.filter fun y => y == x || adj w x y
theorem one_lt {a b : Ch} : [a] < [b] ↔ a < b := by simp [List.cons_lt_cons_iff]
theorem lt2_c (a b : Ch) : lt2 [a] [b] = if a < b then [a, b] else [b, a] := by
  unfold lt2
  simp only [one_lt]
  split <;> rfl
theorem lt2_comm (a b : Ch) : lt2 [a] [b] = lt2 [b] [a] := by
  rw [lt2_c, lt2_c]
  rcases Nat.lt_trichotomy a.val b.val with h | h | h
  · rw [if_pos (show a < b from h), if_neg (show ¬ b < a from fun q => absurd (show b.val < a.val from q) (by omega))]
  · cases Fin.ext h
    rfl
  · rw [if_pos (show b < a from h), if_neg (show ¬ a < b from fun q => absurd (show a.val < b.val from q) (by omega))]
theorem lt2_inj {a b c d : Ch} (h : lt2 [a] [b] = lt2 [c] [d]) : (a = c ∧ b = d) ∨ (a = d ∧ b = c) := by
  rw [lt2_c, lt2_c] at h
  split at h <;> split at h <;> simp at h
  · exact .inl h
  · exact .inr h
  · exact .inr h.symm
  · exact .inl ⟨h.2, h.1⟩
theorem lt2_of {a b : Ch} (h : a < b) : lt2 [a] [b] = [a, b] := by rw [lt2_c, if_pos h]
theorem adj_comm (w : Wb) (x y : Ch) : adj w x y = adj w y x := by
  unfold adj
  rw [lt2_comm]
theorem mem_prs : ∀ {ls : List Ch} {p : List Ch}, ls.Pairwise (· < ·) → (p ∈ prs ls ↔ ∃ a b, a ∈ ls ∧ b ∈ ls ∧ a < b ∧ p = [a, b])
  | [], p, _ => by simp [prs]
  | c :: r, p, h => by
    obtain ⟨h1, h2⟩ := List.pairwise_cons.mp h
    simp only [prs, List.mem_append, List.mem_map, mem_prs h2]
    constructor
    · rintro (⟨b, hb, rfl⟩ | ⟨a, b, ha, hb, hl, rfl⟩)
      · exact ⟨c, b, List.mem_cons_self, List.mem_cons_of_mem _ hb, h1 b hb, rfl⟩
      · exact ⟨a, b, List.mem_cons_of_mem _ ha, List.mem_cons_of_mem _ hb, hl, rfl⟩
    · rintro ⟨a, b, ha, hb, hl, rfl⟩
      rcases List.mem_cons.mp ha with e1 | h3
      · rcases List.mem_cons.mp hb with e2 | h4
        · subst e1
          subst e2
          exact absurd (show b.val < b.val from hl) (by omega)
        · subst e1
          exact .inl ⟨b, h4, rfl⟩
      · rcases List.mem_cons.mp hb with e2 | h4
        · subst e2
          have := h1 a h3
          exact absurd (show a.val < b.val from hl) (by have : b.val < a.val := this; omega)
        · exact .inr ⟨a, b, h3, h4, hl, rfl⟩
theorem asc_nodup {ls : List Ch} (h : ls.Pairwise (· < ·)) : ls.Nodup := h.imp fun {a b} h e => by
  subst e
  exact absurd (show a.val < a.val from h) (by omega)
theorem cas_nodup {cs : List (List Ch)} (h : cs.Pairwise (· < ·)) : cs.Nodup := h.imp fun {a b} h e => by
  subst e
  exact List.lt_irrefl _ h
theorem Wb.Ok.nd {w : Wb} (h : w.Ok) : w.ls.Nodup := asc_nodup h.asc
theorem Wb.Ok.pr {w : Wb} (h : w.Ok) {p : List Ch} (hp : p ∈ w.cs) : ∃ a b, a ∈ w.ls ∧ b ∈ w.ls ∧ a < b ∧ p = [a, b] := (mem_prs h.asc).mp (h.sub p hp)
theorem adj_irr {w : Wb} (h : w.Ok) (x : Ch) : adj w x x = false := by
  unfold adj
  rw [decide_eq_false_iff_not]
  intro q
  obtain ⟨a, b, ha, hb, hl, e⟩ := h.pr q
  rw [lt2_c] at e
  split at e <;>
  · simp only [List.cons.injEq, and_true] at e
    obtain ⟨rfl, rfl⟩ := e
    exact absurd (show x.val < x.val from hl) (by omega)
/-- a renaming that leads -/
structure Iso (w v : Wb) (f : Ch → Ch) : Prop where
  prm : (w.ls.map f).Perm v.ls
  adj : ∀ x ∈ w.ls, ∀ y ∈ w.ls, adj w x y = K03.adj v (f x) (f y)
theorem nodup_inj {f : Ch → Ch} : ∀ {l : List Ch}, (l.map f).Nodup → ∀ {x y : Ch}, x ∈ l → y ∈ l → f x = f y → x = y
  | [], _, _, _, hx, _, _ => by simp at hx
  | a :: l, h, x, y, hx, hy, e => by
    simp only [List.map_cons, List.nodup_cons, List.mem_map, not_exists, not_and] at h
    rcases List.mem_cons.mp hx with h1 | h1
    · rcases List.mem_cons.mp hy with h2 | h2
      · rw [h1, h2]
      · exact absurd (by rw [← e, h1]) (h.1 y h2)
    · rcases List.mem_cons.mp hy with h2 | h2
      · exact absurd (by rw [e, h2]) (h.1 x h1)
      · exact nodup_inj h.2 h1 h2 e
theorem inj_of {w v : Wb} {f : Ch → Ch} (hv : v.Ok) (hp : (w.ls.map f).Perm v.ls) {x y : Ch} (hx : x ∈ w.ls) (hy : y ∈ w.ls) (e : f x = f y) : x = y :=
  nodup_inj (hp.symm.nodup hv.nd) hx hy e
def mp (f : Ch → Ch) : List Ch → List Ch
  | [a, b] => lt2 [f a] [f b]
  | p => p
theorem mp_lt2 (f : Ch → Ch) (a b : Ch) : mp f (lt2 [a] [b]) = lt2 [f a] [f b] := by
  rw [lt2_c a b]
  split
  · rfl
  · exact lt2_comm _ _
theorem nodup_map {α β : Type} {g : α → β} : ∀ {l : List α}, l.Nodup → (∀ x ∈ l, ∀ y ∈ l, g x = g y → x = y) → (l.map g).Nodup
  | [], _, _ => by simp
  | a :: l, h, hi => by
    simp only [List.nodup_cons, List.map_cons, List.mem_map, not_exists, not_and] at h ⊢
    refine ⟨fun x hx e => ?_, nodup_map h.2 fun x hx y hy => hi x (List.mem_cons_of_mem _ hx) y (List.mem_cons_of_mem _ hy)⟩
    have := hi x (List.mem_cons_of_mem _ hx) a List.mem_cons_self e
    subst this
    exact h.1 hx
theorem leads_iff {w v : Wb} (hw : w.Ok) (hv : v.Ok) {f : Ch → Ch} (hp : (w.ls.map f).Perm v.ls) : (w.cs.map (mp f)).Perm v.cs ↔ Iso w v f := by
  have inj : ∀ {x y : Ch}, x ∈ w.ls → y ∈ w.ls → f x = f y → x = y := fun hx hy e => inj_of hv hp hx hy e
  have back : ∀ x ∈ w.ls, ∀ y ∈ w.ls, ∀ p ∈ w.cs, mp f p = lt2 [f x] [f y] → lt2 [x] [y] = p := by
    intro x hx y hy p h e
    obtain ⟨a, b, ha, hb, hl, rfl⟩ := hw.pr h
    rw [← lt2_of hl, mp_lt2] at e
    rcases lt2_inj e with ⟨h1, h2⟩ | ⟨h1, h2⟩
    · rw [← lt2_of hl, inj hx ha h1.symm, inj hy hb h2.symm]
    · rw [← lt2_of hl, inj hx hb h2.symm, inj hy ha h1.symm, lt2_comm]
  constructor
  · intro h
    refine ⟨hp, fun x hx y hy => ?_⟩
    unfold adj
    by_cases q : lt2 [x] [y] ∈ w.cs
    · have : lt2 [f x] [f y] ∈ v.cs := h.mem_iff.mp (by rw [← mp_lt2]; exact List.mem_map_of_mem q)
      simp [q, this]
    · have : ¬ lt2 [f x] [f y] ∈ v.cs := fun z => by
        obtain ⟨p, h1, h2⟩ := List.mem_map.mp (h.mem_iff.mpr z)
        exact q (by rw [back x hx y hy p h1 h2]; exact h1)
      simp [q, this]
  · intro h
    have nd1 : (w.cs.map (mp f)).Nodup := nodup_map (cas_nodup hw.cas) fun p h1 q h2 e => by
      obtain ⟨a, b, ha, hb, hl, rfl⟩ := hw.pr h2
      rw [← lt2_of hl, mp_lt2] at e
      rw [← back a ha b hb p h1 e, lt2_of hl]
    refine (List.perm_ext_iff_of_nodup nd1 (cas_nodup hv.cas)).mpr fun q => ?_
    rw [List.mem_map]
    constructor
    · rintro ⟨p, h1, rfl⟩
      obtain ⟨a, b, ha, hb, hl, rfl⟩ := hw.pr h1
      have := h.adj a ha b hb
      unfold adj at this
      rw [lt2_of hl, decide_eq_true h1, eq_comm, decide_eq_true_eq] at this
      rw [← lt2_of hl, mp_lt2]
      exact this
    · intro h1
      obtain ⟨c, d, hc, hd, hl, rfl⟩ := hv.pr h1
      obtain ⟨a, ha, rfl⟩ := List.mem_map.mp (hp.mem_iff.mpr hc)
      obtain ⟨b, hb, rfl⟩ := List.mem_map.mp (hp.mem_iff.mpr hd)
      have := h.adj a ha b hb
      unfold adj at this
      rw [lt2_of hl, decide_eq_true h1, decide_eq_true_eq] at this
      exact ⟨_, this, by rw [mp_lt2, lt2_of hl]⟩
theorem Iso.inv {w v : Wb} {f : Ch → Ch} (hw : w.Ok) (hv : v.Ok) (h : Iso w v f) : ∃ g, Iso v w g := by
  let g : Ch → Ch := fun y => (w.ls.find? fun x => f x == y).getD 0
  have hg : ∀ x ∈ w.ls, g (f x) = x := by
    intro x hx
    show (w.ls.find? fun z => f z == f x).getD 0 = x
    cases q : w.ls.find? fun z => f z == f x with
    | none => exact absurd (List.find?_eq_none.mp q x hx) (by simp)
    | some z =>
      have h1 := List.mem_of_find?_eq_some q
      have h2 := List.find?_some q
      simp only [beq_iff_eq] at h2
      exact inj_of hv h.prm h1 hx h2
  refine ⟨g, ?_, fun c hc d hd => ?_⟩
  · have := h.prm.symm.map g
    have e : w.ls.map (g ∘ f) = w.ls := by
      conv => rhs; rw [← List.map_id w.ls]
      exact List.map_congr_left fun x hx => hg x hx
    rw [List.map_map, e] at this
    exact this
  · obtain ⟨a, ha, rfl⟩ := List.mem_map.mp (h.prm.mem_iff.mpr hc)
    obtain ⟨b, hb, rfl⟩ := List.mem_map.mp (h.prm.mem_iff.mpr hd)
    rw [hg a ha, hg b hb, h.adj a ha b hb]
theorem Iso.refl (w : Wb) : Iso w w id := ⟨by simp, fun _ _ _ _ => rfl⟩
theorem Iso.deg {w v : Wb} {f : Ch → Ch} (hv : v.Ok) (h : Iso w v f) {x : Ch} (hx : x ∈ w.ls) : (row w x).length = (row v (f x)).length := by
  unfold row
  rw [← (h.prm.filter _).length_eq, List.filter_map, List.length_map]
  congr 1
  refine List.filter_congr fun y hy => ?_
  simp only [Function.comp, h.adj x hx y hy]
  congr 1
  by_cases e : y = x
  · simp [e]
  · have : f y ≠ f x := fun q => e (inj_of hv h.prm hy hx q)
    rw [beq_eq_false_iff_ne.mpr e, beq_eq_false_iff_ne.mpr this]
end K03
set_option Elab.async false
set_option linter.all false
set_option maxRecDepth 100000
namespace K03
open DE
/-! ### the search, plainly -/
def can (w v : Wb) (x y : Ch) (s : List Ch) : Bool := (row w x).length == (row v y).length && (w.ls.zip s).all fun p => decide (p.1 ∈ row w x) == decide (p.2 ∈ row v y)
structure Fit (w v : Wb) (s : List Ch) : Prop where
  nd : s.Nodup
  sub : ∀ y ∈ s, y ∈ v.ls
  deg : ∀ p ∈ w.ls.zip s, (row w p.1).length = (row v p.2).length
  par : (w.ls.zip s).Pairwise fun p q => decide (p.1 ∈ row w q.1) = decide (p.2 ∈ row v q.2)
theorem zip_one {A B s r : List Ch} (h : A.length = s.length) : (A ++ B).zip (s ++ r) = A.zip s ++ B.zip r := List.zip_append h
theorem zip_cut {A B s : List Ch} (h : A.length = s.length) : (A ++ B).zip s = A.zip s := by
  have := zip_one (B := B) (r := []) h
  simpa using this
theorem Fit.snoc {w v : Wb} {A B s : List Ch} {x y : Ch} (hl : w.ls = A ++ x :: B) (h : A.length = s.length) : Fit w v (s ++ [y]) ↔ Fit w v s ∧ y ∉ s ∧ y ∈ v.ls ∧ can w v x y s = true := by
  have z1 : w.ls.zip (s ++ [y]) = A.zip s ++ [(x, y)] := by
    rw [hl, zip_one h]
    simp
  have z2 : w.ls.zip s = A.zip s := by rw [hl, zip_cut h]
  have hc : can w v x y s = true ↔ (row w x).length = (row v y).length ∧ ∀ p ∈ A.zip s, decide (p.1 ∈ row w x) = decide (p.2 ∈ row v y) := by
    unfold can
    rw [z2]
    simp only [Bool.and_eq_true, beq_iff_eq, List.all_eq_true]
  rw [hc]
  constructor
  · rintro ⟨h1, h2, h3, h4⟩
    rw [z1] at h3 h4
    rw [List.pairwise_append] at h4
    rw [List.nodup_append] at h1
    refine ⟨⟨h1.1, fun z hz => h2 z (by simp [hz]), ?_, ?_⟩, fun q => h1.2.2 y q y (by simp) rfl, h2 y (by simp), h3 (x, y) (by simp), fun p hp => h4.2.2 p hp (x, y) (by simp)⟩
    · rw [z2]
      exact fun p hp => h3 p (by simp [hp])
    · rw [z2]
      exact h4.1
  · rintro ⟨⟨h1, h2, h3, h4⟩, h5, h6, h7, h8⟩
    rw [z2] at h3 h4
    refine ⟨?_, ?_, ?_, ?_⟩
    · rw [List.nodup_append]
      refine ⟨h1, by simp, fun a ha b hb e => ?_⟩
      simp only [List.mem_singleton] at hb
      subst hb
      subst e
      exact h5 ha
    · intro z hz
      rcases List.mem_append.mp hz with hz | hz
      · exact h2 z hz
      · simp only [List.mem_singleton] at hz
        rw [hz]
        exact h6
    · rw [z1]
      intro p hp
      rcases List.mem_append.mp hp with hp | hp
      · exact h3 p hp
      · simp only [List.mem_singleton] at hp
        rw [hp]
        exact h7
    · rw [z1, List.pairwise_append]
      refine ⟨h4, by simp, fun a ha b hb => ?_⟩
      simp only [List.mem_singleton] at hb
      rw [hb]
      exact h8 a ha
theorem Fit.pre {w v : Wb} {s r : List Ch} (h : Fit w v (s ++ r)) (hs : s.length ≤ w.ls.length) : Fit w v s := by
  obtain ⟨h1, h2, h3, h4⟩ := h
  have ht : (w.ls.take s.length).length = s.length := by simp; omega
  have e : w.ls.zip (s ++ r) = w.ls.zip s ++ (w.ls.drop s.length).zip r := by
    conv => lhs; rw [← List.take_append_drop s.length w.ls]
    conv => rhs; lhs; rw [← List.take_append_drop s.length w.ls]
    rw [zip_one ht, zip_cut ht]
  rw [e] at h3 h4
  exact ⟨(List.nodup_append.mp h1).1, fun y hy => h2 y (by simp [hy]), fun p hp => h3 p (by simp [hp]), (List.pairwise_append.mp h4).1⟩
theorem Fit.nil (w v : Wb) : Fit w v [] := ⟨by simp, by simp, by simp, by simp⟩
def dfs (w v : Wb) : Nat → List Ch → Option (List Ch)
  | 0, _ => none
  | k + 1, s => if s.length = w.ls.length then some s else v.ls.findSome? fun y => if !decide (y ∈ s) && can w v (w.ls[s.length]?.getD 0) y s then dfs w v k (s ++ [y]) else none
theorem lt_common {y y' : Ch} {r r' : List Ch} (h : y < y') : ∀ s : List Ch, ¬ (s ++ y' :: r') < (s ++ y :: r)
  | [] => by
    intro q
    rw [List.nil_append, List.nil_append, List.cons_lt_cons_iff] at q
    rcases q with q | ⟨q, _⟩
    · exact absurd (show y'.val < y.val from q) (by have : y.val < y'.val := h; omega)
    · subst q
      exact absurd (show y'.val < y'.val from h) (by omega)
  | a :: s => by
    intro q
    rw [List.cons_append, List.cons_append, List.cons_lt_cons_iff] at q
    rcases q with q | ⟨_, q⟩
    · exact absurd (show a.val < a.val from q) (by omega)
    · exact lt_common h s q
theorem split_at {ls : List Ch} {n : Nat} (h : n < ls.length) : ∃ A B, ls = A ++ ls[n]?.getD 0 :: B ∧ A.length = n := by
  refine ⟨ls.take n, ls.drop (n + 1), ?_, by simp; omega⟩
  rw [List.getElem?_eq_getElem h, Option.getD_some]
  simp
theorem dfs_spec {w v : Wb} (hv : v.Ok) : ∀ (k : Nat) (s : List Ch), Fit w v s → s.length ≤ w.ls.length → w.ls.length - s.length < k →
    (∀ t, dfs w v k s = some t → Fit w v t ∧ s <+: t ∧ t.length = w.ls.length ∧ ∀ t', Fit w v t' → s <+: t' → t'.length = w.ls.length → ¬ t' < t) ∧
    (dfs w v k s = none → ∀ t', Fit w v t' → s <+: t' → t'.length = w.ls.length → False)
  | 0, s, _, _, h => by omega
  | k + 1, s, fs, hl, hk => by
    by_cases hs : s.length = w.ls.length
    · have e : dfs w v (k + 1) s = some s := by simp only [dfs, hs, if_true]
      rw [e]
      refine ⟨fun t ht => ?_, fun h => (by cases h)⟩
      cases ht
      refine ⟨fs, ⟨[], by simp⟩, hs, fun t' _ hp hl' => ?_⟩
      obtain ⟨r, rfl⟩ := hp
      have : r = [] := List.length_eq_zero_iff.mp (by rw [List.length_append] at hl'; omega)
      subst this
      rw [List.append_nil]
      exact List.lt_irrefl s
    · obtain ⟨A, B, hA, hAl⟩ := split_at (ls := w.ls) (n := s.length) (by omega)
      have ext : ∀ t', Fit w v t' → s <+: t' → t'.length = w.ls.length → ∃ y r, t' = s ++ y :: r ∧ Fit w v (s ++ [y]) ∧ y ∈ v.ls ∧ (!decide (y ∈ s) && can w v (w.ls[s.length]?.getD 0) y s) = true := by
        intro t' ft hp hl'
        obtain ⟨r, rfl⟩ := hp
        cases r with
        | nil =>
          rw [List.append_nil] at hl'
          exact absurd hl' hs
        | cons y r =>
          have f1 : Fit w v (s ++ [y]) := Fit.pre (r := r) (by simpa using ft) (by simp at hl' ⊢; omega)
          obtain ⟨_, h2, h3, h4⟩ := (Fit.snoc hA hAl).mp f1
          exact ⟨y, r, rfl, f1, h3, by simp [h2, h4]⟩
      have nx : ∀ y, w.ls.length - (s ++ [y]).length < k ∧ (s ++ [y]).length ≤ w.ls.length := fun y => by simp; omega
      have e : dfs w v (k + 1) s = v.ls.findSome? fun y => if !decide (y ∈ s) && can w v (w.ls[s.length]?.getD 0) y s then dfs w v k (s ++ [y]) else none := by simp only [dfs, hs, if_false]
      have pf : ∀ y r, s ++ [y] <+: s ++ y :: r := fun y r => ⟨r, by simp⟩
      rw [e]
      constructor
      · intro t ht
        obtain ⟨pre, y, post, e1, e2, e3⟩ := List.findSome?_eq_some_iff.mp ht
        split at e2
        · rename_i hc
          have hy : y ∈ v.ls := by rw [e1]; simp
          have f1 : Fit w v (s ++ [y]) := (Fit.snoc hA hAl).mpr (by
            simp only [Bool.and_eq_true, Bool.not_eq_true', decide_eq_false_iff_not] at hc
            exact ⟨fs, hc.1, hy, hc.2⟩)
          obtain ⟨g1, g2, g3, g4⟩ := (dfs_spec hv k (s ++ [y]) f1 (nx y).2 (nx y).1).1 t e2
          obtain ⟨r, rfl⟩ := g2
          refine ⟨g1, ⟨y :: r, by simp⟩, g3, fun t' ft hp hl' => ?_⟩
          obtain ⟨y', r', rfl, f2, h2, h3⟩ := ext t' ft hp hl'
          rw [e1] at h2
          rcases List.mem_append.mp h2 with h2 | h2
          · have := e3 y' h2
            rw [if_pos h3] at this
            exact ((dfs_spec hv k (s ++ [y']) f2 (nx y').2 (nx y').1).2 this _ ft (pf y' r') hl').elim
          · rcases List.mem_cons.mp h2 with h2 | h2
            · subst h2
              exact g4 _ ft (pf y' r') hl'
            · have ha := hv.asc
              rw [e1] at ha
              have : y < y' := (List.pairwise_cons.mp (List.pairwise_append.mp ha).2.1).1 y' h2
              rw [List.append_assoc]
              exact lt_common this s
        · cases e2
      · intro ht t' ft hp hl'
        obtain ⟨y', r', rfl, f2, h2, h3⟩ := ext t' ft hp hl'
        have := List.findSome?_eq_none_iff.mp ht y' h2
        rw [if_pos h3] at this
        exact (dfs_spec hv k (s ++ [y']) f2 (nx y').2 (nx y').1).2 this _ ft (pf y' r') hl'
theorem pw_sym {α : Type} {R : α → α → Prop} (hs : ∀ x y, R x y → R y x) : ∀ {l : List α}, (∀ x ∈ l, R x x) → l.Pairwise R → ∀ x ∈ l, ∀ y ∈ l, R x y
  | [], _, _, x, hx, _, _ => by simp at hx
  | a :: l, hr, h, x, hx, y, hy => by
    obtain ⟨h1, h2⟩ := List.pairwise_cons.mp h
    rcases List.mem_cons.mp hx with e1 | e1
    · rcases List.mem_cons.mp hy with e2 | e2
      · rw [e1, e2]
        exact hr a List.mem_cons_self
      · rw [e1]
        exact h1 y e2
    · rcases List.mem_cons.mp hy with e2 | e2
      · rw [e2]
        exact hs _ _ (h1 x e1)
      · exact pw_sym hs (fun x hx => hr x (List.mem_cons_of_mem _ hx)) h2 x e1 y e2
theorem perm_sub : ∀ {l m : List Ch}, l.Nodup → (∀ x ∈ l, x ∈ m) → l.length = m.length → l.Perm m
  | [], m, _, _, h => by
    rw [List.length_eq_zero_iff.mp h.symm]
  | a :: l, m, hn, hs, h => by
    obtain ⟨h1, h2⟩ := List.nodup_cons.mp hn
    have ha := hs a List.mem_cons_self
    have p := List.perm_cons_erase ha
    refine (List.Perm.cons a (perm_sub h2 (fun x hx => ?_) ?_)).trans p.symm
    · have := p.mem_iff.mp (hs x (List.mem_cons_of_mem _ hx))
      rcases List.mem_cons.mp this with e | e
      · exact absurd (e ▸ hx) h1
      · exact e
    · have := p.length_eq
      simp only [List.length_cons] at this h
      omega
theorem zip_self {f : Ch → Ch} : ∀ ls : List Ch, ls.zip (ls.map f) = ls.map fun x => (x, f x)
  | [] => rfl
  | a :: l => by simp [zip_self l]
theorem row_mem {w : Wb} {x y : Ch} (hx : x ∈ w.ls) (h : x ≠ y) : decide (x ∈ row w y) = adj w x y := by
  unfold row
  rw [adj_comm]
  cases q : adj w y x <;> simp [hx, q, h]
theorem fit_iso {w v : Wb} (hw : w.Ok) (hv : v.Ok) (hn : w.ls.length = v.ls.length) {f : Ch → Ch} : Fit w v (w.ls.map f) ↔ Iso w v f := by
  constructor
  · rintro ⟨h1, h2, h3, h4⟩
    have hp : (w.ls.map f).Perm v.ls := perm_sub h1 h2 (by simp [hn])
    refine ⟨hp, ?_⟩
    rw [zip_self, List.pairwise_map] at h4
    refine pw_sym (fun x y e => by rw [adj_comm, e, adj_comm]) (fun x _ => by rw [adj_irr hw, adj_irr hv]) ?_
    refine (h4.and hw.nd).imp_of_mem fun {a b} ha hb ⟨e, ne⟩ => ?_
    simp only at e
    rw [row_mem ha ne, row_mem (h2 _ (List.mem_map_of_mem ha)) fun q => ne (inj_of hv hp ha hb q)] at e
    exact e
  · intro h
    refine ⟨h.prm.symm.nodup hv.nd, fun y hy => h.prm.mem_iff.mp hy, ?_, ?_⟩
    · rw [zip_self]
      intro p hp
      obtain ⟨x, hx, rfl⟩ := List.mem_map.mp hp
      exact h.deg hv hx
    · rw [zip_self, List.pairwise_map]
      refine hw.nd.imp_of_mem fun {a b} ha hb ne => ?_
      simp only
      rw [row_mem ha ne, row_mem (h.prm.mem_iff.mp (List.mem_map_of_mem ha)) fun q => ne (inj_of hv h.prm ha hb q), h.adj a ha b hb]
def fOf (ls t : List Ch) (x : Ch) : Ch := ((ls.zip t).lookup x).getD 0
theorem map_fOf : ∀ {ls t : List Ch}, ls.Nodup → ls.length = t.length → ls.map (fOf ls t) = t
  | [], [], _, _ => rfl
  | [], b :: t, _, h => by simp at h
  | a :: l, [], _, h => by simp at h
  | a :: l, b :: t, hn, h => by
    obtain ⟨h1, h2⟩ := List.nodup_cons.mp hn
    simp only [List.map_cons]
    congr 1
    · simp [fOf]
    · rw [← map_fOf (t := t) h2 (by simpa using h)]
      refine List.map_congr_left fun x hx => ?_
      have : x ≠ a := fun e => h1 (e ▸ hx)
      have : (x == a) = false := beq_eq_false_iff_ne.mpr this
      rw [map_fOf h2 (by simpa using h)]
      simp only [fOf, List.zip_cons_cons, List.lookup_cons, this]
def tell (w v : Wb) : Option (List Ch) := if w.ls.length ≠ v.ls.length ∨ w.cs.length ≠ v.cs.length then none else dfs w v 12 []
theorem Iso.len {w v : Wb} (hw : w.Ok) (hv : v.Ok) {f : Ch → Ch} (h : Iso w v f) : w.ls.length = v.ls.length ∧ w.cs.length = v.cs.length := by
  have h1 := h.prm.length_eq
  have h2 := ((leads_iff hw hv h.prm).mpr h).length_eq
  simpa using And.intro h1 h2
theorem tell_some {w v : Wb} (hw : w.Ok) (hv : v.Ok) {t : List Ch} (h : tell w v = some t) : ∃ f, t = w.ls.map f ∧ Iso w v f ∧ ∀ f', Iso w v f' → ¬ w.ls.map f' < t := by
  unfold tell at h
  split at h
  · cases h
  · rename_i hn
    have hn : w.ls.length = v.ls.length ∧ w.cs.length = v.cs.length := by omega
    obtain ⟨g1, g2, g3, g4⟩ := (dfs_spec hv 12 [] (Fit.nil w v) (by simp) (by have := hw.few; simp; omega)).1 t h
    have e := map_fOf hw.nd g3.symm
    refine ⟨fOf w.ls t, e.symm, (fit_iso hw hv hn.1).mp (by rw [e]; exact g1), fun f' hf => g4 _ ((fit_iso hw hv hn.1).mpr hf) ⟨w.ls.map f', by simp⟩ (by simp)⟩
theorem tell_none {w v : Wb} (hw : w.Ok) (hv : v.Ok) (h : tell w v = none) (f : Ch → Ch) : ¬ Iso w v f := by
  intro hf
  obtain ⟨h1, h2⟩ := hf.len hw hv
  unfold tell at h
  rw [if_neg (by omega)] at h
  exact (dfs_spec hv 12 [] (Fit.nil w v) (by simp) (by have := hw.few; simp; omega)).2 h _ ((fit_iso hw hv h1).mpr hf) ⟨w.ls.map f, by simp⟩ (by simp)
end K03
set_option Elab.async false
set_option linter.all false
set_option maxRecDepth 100000
namespace K03
open DE
/-! ### texts sorted, joined; orders -/
theorem joinC_nil : ∀ l : List (List Ch), joinC [] l = l.flatten
  | [] => rfl
  | [p] => by simp [joinC]
  | p :: q :: r => by
    have := joinC_nil (q :: r)
    simp [joinC] at this ⊢
    exact this
abbrev ones (s : List Ch) : List (List Ch) := s.map fun c => [c]
theorem ones_flat : ∀ s : List Ch, (ones s).flatten = s
  | [] => rfl
  | a :: s => by
    have := ones_flat s
    simp [ones] at this ⊢
    exact this
theorem sortS_perm (l : List (List Ch)) : (sortS l).Perm l := isort_perm _ l
theorem sortS_len (l : List (List Ch)) : (sortS l).length = l.length := (sortS_perm l).length_eq
theorem sortS_of {l m : List (List Ch)} (hp : l.Perm m) (h : m.Pairwise (· < ·)) : sortS l = m :=
  sorted_uniq leS_a ((sortS_perm l).trans hp) (isort_sorted leS_t leS_l l) (h.imp fun {a b} q => leS_iff.mpr (List.lt_asymm q))
theorem sortS_iff {l m : List (List Ch)} (h : m.Pairwise (· < ·)) : sortS l = m ↔ l.Perm m :=
  ⟨fun e => e ▸ (sortS_perm l).symm, fun p => sortS_of p h⟩
theorem sortS_asc {l : List (List Ch)} (h : l.Nodup) : (sortS l).Pairwise (· < ·) := by
  have h1 := isort_sorted leS_t leS_l l
  have h2 : (sortS l).Nodup := (sortS_perm l).symm.nodup h
  refine (List.Pairwise.and h1 h2).imp fun {a b} ⟨q, ne⟩ => ?_
  rw [leS_iff] at q
  rcases List.le_iff_lt_or_eq.mp (List.not_lt.mp q) with z | z
  · exact z
  · exact absurd z ne
theorem ones_asc {s : List Ch} (h : s.Pairwise (· < ·)) : (ones s).Pairwise (· < ·) := by
  rw [List.pairwise_map]
  exact h.imp fun q => one_lt.mpr q
theorem ones_perm {s t : List Ch} : (ones s).Perm (ones t) ↔ s.Perm t := by
  constructor
  · intro h
    have := h.flatten
    rwa [ones_flat, ones_flat] at this
  · exact fun h => h.map _
/-- the letters of a text, sorted -/
def srt (s : List Ch) : List Ch := joinC [] (sortS (ones s))
theorem srt_iff {s t : List Ch} (h : t.Pairwise (· < ·)) : srt s = t ↔ s.Perm t := by
  unfold srt
  rw [joinC_nil]
  constructor
  · intro e
    have := (sortS_perm (ones s)).flatten
    rw [e, ones_flat] at this
    exact this.symm
  · intro hp
    rw [sortS_of (ones_perm.mpr hp) (ones_asc h), ones_flat]
theorem srt_perm (s : List Ch) : (srt s).Perm s := by
  unfold srt
  rw [joinC_nil]
  have := (sortS_perm (ones s)).flatten
  rwa [ones_flat] at this
theorem srt_asc {s : List Ch} (h : s.Nodup) : (srt s).Pairwise (· < ·) ∧ sortS (ones s) = ones (srt s) := by
  have hn : (ones s).Nodup := nodup_map h fun x _ y _ e => by simpa using e
  have h1 := sortS_asc hn
  have e : sortS (ones s) = ones (srt s) := by
    have hm : ∀ p ∈ sortS (ones s), ∃ c, p = [c] := fun p hp => by
      obtain ⟨c, _, rfl⟩ := List.mem_map.mp ((sortS_perm (ones s)).mem_iff.mp hp)
      exact ⟨c, rfl⟩
    unfold srt
    rw [joinC_nil]
    generalize sortS (ones s) = l at hm ⊢
    clear h1 hn h
    induction l with
    | nil => rfl
    | cons p l ih =>
      obtain ⟨c, rfl⟩ := hm p List.mem_cons_self
      have := ih fun q hq => hm q (List.mem_cons_of_mem _ hq)
      simp only [ones, List.flatten_cons, List.singleton_append, List.map_cons] at this ⊢
      exact congrArg _ this
  refine ⟨?_, e⟩
  rw [e, List.pairwise_map] at h1
  exact h1.imp fun q => one_lt.mp q
/-- two letters, sorted and joined -/
theorem sort_two (a b : Ch) : joinC [] (sortS [[a], [b]]) = lt2 [a] [b] := by
  have e : sortS [[a], [b]] = if leS [a] [b] then [[a], [b]] else [[b], [a]] := rfl
  rw [e]
  unfold leS lt2
  by_cases h : a < b
  · have h2 : ¬ b < a := fun q => absurd (show b.val < a.val from q) (by have : a.val < b.val := h; omega)
    simp [one_lt, h, h2, joinC]
  · by_cases h2 : b < a
    · simp [one_lt, h, h2, joinC]
    · have : a = b := Fin.ext (by
        have h3 : ¬ a.val < b.val := h
        have h4 : ¬ b.val < a.val := h2
        omega)
      subst this
      simp [one_lt, h, joinC]
/-- what the law's look at a text tells -/
def leadB (w v : Wb) (s : List Ch) : Bool := decide (srt s = v.ls) && decide (s.length = w.ls.length) && decide (sortS (w.cs.map (mp (fOf w.ls s))) = v.cs)
theorem leadB_iff {w v : Wb} (hw : w.Ok) (hv : v.Ok) (s : List Ch) : leadB w v s = true ↔ ∃ f, s = w.ls.map f ∧ Iso w v f := by
  unfold leadB
  simp only [Bool.and_eq_true, decide_eq_true_eq, srt_iff hv.asc, sortS_iff hv.cas]
  constructor
  · rintro ⟨⟨h1, h2⟩, h3⟩
    have e := map_fOf hw.nd h2.symm
    exact ⟨_, e.symm, (leads_iff hw hv (by rw [e]; exact h1)).mp h3⟩
  · rintro ⟨f, rfl, h⟩
    refine ⟨⟨h.prm, by simp⟩, ?_⟩
    have e := map_fOf (t := w.ls.map f) hw.nd (by simp)
    have : w.cs.map (mp (fOf w.ls (w.ls.map f))) = w.cs.map (mp f) := by
      refine List.map_congr_left fun p hp => ?_
      obtain ⟨a, b, ha, hb, hl, rfl⟩ := hw.pr hp
      have q : ∀ x ∈ w.ls, fOf w.ls (w.ls.map f) x = f x := List.map_inj_left.mp e
      simp only [mp, q a ha, q b hb]
    rw [this]
    exact (leads_iff hw hv h.prm).mpr h
/-! ### all orders -/
def putIn (x : Ch) (r : List Ch) : List (List Ch) := (List.range (r.length + 1)).map fun i => r.take i ++ [x] ++ r.drop i
def ordStep (rows : List (List Ch)) (x : Ch) : List (List Ch) := rows.flatMap (putIn x)
def ords (ls : List Ch) : List (List Ch) := ls.foldl ordStep [[]]
theorem ords_snoc (ls : List Ch) (x : Ch) : ords (ls ++ [x]) = ordStep (ords ls) x := by simp [ords]
theorem ords_go : ∀ (ls pre : List Ch) (rows : List (List Ch)), (∀ t, t.Perm pre → t ∈ rows) → ∀ t, t.Perm (pre ++ ls) → t ∈ ls.foldl ordStep rows
  | [], pre, rows, h, t, ht => h t (by simpa using ht)
  | x :: ls, pre, rows, h, t, ht => by
    refine ords_go ls (pre ++ [x]) (ordStep rows x) (fun u hu => ?_) t (by simpa using ht)
    have hx : x ∈ u := hu.mem_iff.mpr (by simp)
    obtain ⟨a, b, rfl⟩ := List.append_of_mem hx
    have : (a ++ b).Perm pre := by
      have h1 : (x :: (a ++ b)).Perm (x :: pre) := (List.perm_middle.symm.trans hu).trans (List.perm_append_singleton x pre)
      exact h1.cons_inv
    refine List.mem_flatMap.mpr ⟨a ++ b, h _ this, List.mem_map.mpr ⟨a.length, by simp; omega, by simp⟩⟩
theorem ords_mem {ls t : List Ch} (h : t.Perm ls) : t ∈ ords ls := ords_go ls [] [[]] (fun u hu => by simp [List.Perm.eq_nil hu]) t (by simpa using h)
def fct : Nat → Nat
  | 0 => 1
  | n + 1 => (n + 1) * fct n
theorem ordStep_len {rows : List (List Ch)} {x : Ch} {k : Nat} (h : ∀ r ∈ rows, r.length = k) : (ordStep rows x).length = rows.length * (k + 1) ∧ ∀ r ∈ ordStep rows x, r.length = k + 1 := by
  constructor
  · unfold ordStep
    induction rows with
    | nil => simp
    | cons r rows ih =>
      have h1 := ih fun r hr => h r (List.mem_cons_of_mem _ hr)
      simp only [List.flatMap_cons, List.length_append, List.length_cons, h1, putIn, List.length_map, List.length_range, h r List.mem_cons_self]
      rw [Nat.succ_mul]
      omega
  · intro r hr
    obtain ⟨u, hu, hr⟩ := List.mem_flatMap.mp hr
    obtain ⟨i, hi, rfl⟩ := List.mem_map.mp hr
    have := h u hu
    simp only [List.mem_range] at hi
    simp
    omega
theorem ords_len : ∀ (ls pre : List Ch) (rows : List (List Ch)), rows.length = fct pre.length → (∀ r ∈ rows, r.length = pre.length) → (ls.foldl ordStep rows).length = fct (pre ++ ls).length ∧ ∀ r ∈ ls.foldl ordStep rows, r.length = (pre ++ ls).length
  | [], pre, rows, h, h2 => by simpa using And.intro h h2
  | x :: ls, pre, rows, h, h2 => by
    obtain ⟨h3, h4⟩ := ordStep_len (x := x) h2
    have := ords_len ls (pre ++ [x]) (ordStep rows x) (by rw [h3, h]; simp [fct, Nat.mul_comm]) (by simpa using h4)
    simpa using this
theorem ords_size (ls : List Ch) : (ords ls).length = fct ls.length ∧ ∀ r ∈ ords ls, r.length = ls.length := by
  have := ords_len ls [] [[]] rfl (by simp)
  simpa [ords] using this
theorem fct_le {n : Nat} (h : n ≤ 5) : fct n ≤ 120 := by
  have : n = 0 ∨ n = 1 ∨ n = 2 ∨ n = 3 ∨ n = 4 ∨ n = 5 := by omega
  rcases this with rfl | rfl | rfl | rfl | rfl | rfl <;> decide
end K03
set_option Elab.async false
set_option linter.all false
set_option maxRecDepth 100000
namespace K03
open PySem DE
/-! ### the web's defs, walked -/
theorem zip_next {L : List (List Ch)} (h : L.Pairwise (· < ·)) : ∀ p ∈ L.zip (L.drop 1), p.1 < p.2 := by
  induction L with
  | nil => simp
  | cons a r ih =>
    obtain ⟨h1, h2⟩ := List.pairwise_cons.mp h
    cases r with
    | nil => simp
    | cons b r =>
      intro p hp
      simp only [List.drop_succ_cons, List.drop_zero, List.zip_cons_cons, List.mem_cons] at hp
      rcases hp with rfl | hp
      · exact h1 b List.mem_cons_self
      · exact ih h2 p (by simpa using hp)
theorem asc_core {d d' : D} {L : List (List Ch)} (h1 : itemsD d = some (L.map .str)) (h2 : Ev (slF (readF 0) (someO (cstF (.int (1)))) (noO)) [some (.imm d), none, none] d' [some (.imm d), none, none]) (h3 : itemsD d' = some ((L.drop 1).map .str))
    (h : L.Pairwise (· < ·)) (hl : L.length ≤ 1000) : F_are_ascending [.imm d] = .ok (.imm (.bl true), none) := by
  have e : Nv (compF (zipF (consA (readF 0) (consA (slF (readF 0) (someO (cstF (.int (1)))) (noO)) (nilA)))) (.tp [(.nm 1), (.nm 2)]) (yesT) (op2F ltD (readF 1) (readF 2)) [1, 2]) [some (.imm d), none, none]
      (.lst (((pairsD ((L.map D.str).zip ((L.drop 1).map .str))).filter fun _ => true).map fun _ => .bl true)) [some (.imm d), none, none] := by
    refine compF_pure (δ0 := [some (.imm d), none, none]) (i_zip (e_read rfl) h2 h1 h3) ?_ rfl ?_ rfl
    · simp only [pairsD, List.length_map, List.length_zip, lim]
      omega
    · intro p hp
      obtain ⟨⟨x, y⟩, hq, rfl⟩ := List.mem_map.mp hp
      rw [List.zip_map, List.mem_map] at hq
      obtain ⟨⟨a, b⟩, hm, e⟩ := hq
      simp only [Prod.map, Prod.mk.injEq] at e
      obtain ⟨rfl, rfl⟩ := e
      have hlt := zip_next h _ hm
      refine ⟨[some (.imm d), some (.imm (.str a)), some (.imm (.str b))], rfl, rfl, fun _ => ?_, rfl⟩
      simp only at hlt
      exact e_op2 (e_read rfl) (e_read rfl) (by simp only [ltD, decide_eq_true hlt])
  unfold F_are_ascending
  exact fn_rt (δ' := [some (.imm d), none, none]) (s_ret (e_bi (a_one (e_fresh e)) (all_true _))) rfl
theorem f_asc_str {ls : List Ch} (h : ls.Pairwise (· < ·)) (hl : ls.length ≤ 26) : F_are_ascending [.imm (.str ls)] = .ok (.imm (.bl true), none) := by
  have h0 : lim ls.length := by unfold lim; omega
  have e := e_slS (δ := [some (.imm (.str ls)), none, none]) (e_read (n := 0) rfl) (o_some (e_cst (d := .int 1))) o_no h0
  have c := cut_from ls 1
  simp only [Int.natCast_one] at c
  rw [c] at e
  exact asc_core (items_str ls) e (by rw [items_str, List.map_drop]) (ones_asc h) (by simp; omega)
theorem f_asc_tup {cs : List (List Ch)} (h : cs.Pairwise (· < ·)) (hl : cs.length ≤ 1000) : F_are_ascending [.imm (.tup (cs.map .str))] = .ok (.imm (.bl true), none) := by
  have e := e_slT (δ := [some (.imm (.tup (cs.map .str))), none, none]) (e_read (n := 0) rfl) (o_some (e_cst (d := .int 1))) o_no
  have c := cut_from (cs.map D.str) 1
  simp only [Int.natCast_one] at c
  rw [c] at e
  exact asc_core (items_tup _) e (by rw [items_tup, List.map_drop]) h hl
theorem f_letters {ls : List Ch} (h : ls.Pairwise (· < ·)) (hlow : ∀ c ∈ ls, isLow c = true) (hl : ls.length ≤ 26) : F_are_letters [.imm (.str ls)] = .ok (.imm (.bl true), none) := by
  have h0 : lim ls.length := by unfold lim; omega
  have e : Nv (compF (walkF (readF 0)) (.nm 1) (yesT) (callF F_is_letter [] (consA (readF 1) (nilA))) [1]) [some (.imm (.str ls)), none] (.lst (((ones ls).map D.str).map fun _ => .bl true)) [some (.imm (.str ls)), none] := by
    refine comp_all (walk_at rfl (items_str ls)) (by simpa using h0) (.inl rfl) ?_
    intro d hd
    rw [List.map_map] at hd
    obtain ⟨c, hc, rfl⟩ := List.mem_map.mp hd
    have := f_is_letter1 c
    rw [hlow c hc] at this
    exact e_call (a_one (e_read rfl)) this
  unfold F_are_letters
  exact fn_rt (δ' := [some (.imm (.str ls)), none]) (s_ret (e_and_t (e_isi (e_read rfl) rfl (by simp [isiTab, List.lookup])) (e_and_t (e_bi (a_one (e_fresh e)) (all_true _)) (e_call (a_one (e_read rfl)) (f_asc_str h hl))))) rfl
end K03
set_option Elab.async false
set_option linter.all false
set_option maxRecDepth 100000
namespace K03
open PySem DE
theorem prs_len : ∀ ls : List Ch, (prs ls).length ≤ ls.length * ls.length
  | [] => by simp [prs]
  | a :: r => by
    have := prs_len r
    simp only [prs, List.length_append, List.length_map, List.length_cons]
    rw [Nat.succ_mul, Nat.mul_succ]
    omega
/-! pairs_of -/
theorem pairs_go (ls : List Ch) (hl : ls.length ≤ 26) : ∀ (suf pre : List Ch) (n : Nat), pre ++ suf = ls → n + (prs suf).length ≤ 1000 →
    comp2L (.tp [(.nm 1), (.nm 2)]) (yesT) (walkF (slF (readF 0) (someO (op2F addD (readF 1) (cstF (.int (1))))) (noO))) (.nm 3) (yesT) (op2F addD (readF 2) (readF 3)) [1, 2, 3] [3] n
      (pairsD (numD pre.length ((ones suf).map .str))) [some (.imm (.str ls)), none, none, none] = .ok ((prs suf).map .str, [some (.imm (.str ls)), none, none, none])
  | [], pre, n, _, _ => rfl
  | a :: r, pre, n, h, hn => by
    have h0 : lim ls.length := by unfold lim; omega
    have hr : ls.drop (pre.length + 1) = r := by
      rw [← h, List.drop_append]
      simp
    have hrl : r.length ≤ 26 := by
      rw [← h] at hl
      simp at hl
      omega
    simp only [prs, List.length_append, List.length_map] at hn
    have ih := pairs_go ls hl r (pre ++ [a]) (n + r.length) (by simpa using h) (by omega)
    rw [List.length_append, List.length_singleton] at ih
    have hw : walkF (slF (readF 0) (someO (op2F addD (readF 1) (cstF (.int (1))))) (noO)) [some (.imm (.str ls)), some (.imm (.int pre.length)), some (.imm (.str [a])), none] = .ok (((ones r).map .str, none), [some (.imm (.str ls)), some (.imm (.int pre.length)), some (.imm (.str [a])), none]) := by
      have e := cut_from ls (pre.length + 1)
      rw [hr] at e
      have e2 : ((pre.length : Int) + 1) = ((pre.length + 1 : Nat) : Int) := by simp
      simp only [walkF, slF, readF, List.getElem?_cons_zero, List.getElem?_cons_succ, ok_bind, pure_ok, someO, op2F, cstF, res, addD, ofO_some, noO, cutLD, cutD, h0, if_true, e2, e, items_str, srcR]
    have hc : compL (.nm 3) yesT (op2F addD (readF 2) (readF 3)) [3] ((ones r).map .str) [some (.imm (.str ls)), some (.imm (.int pre.length)), some (.imm (.str [a])), none] = .ok ((r.map fun b => [a, b]).map .str, [some (.imm (.str ls)), some (.imm (.int pre.length)), some (.imm (.str [a])), none]) := by
      have := compL_pure (t := .nm 3) (c := yesT) (f := op2F addD (readF 2) (readF 3)) (vs := [3]) (δ0 := [some (.imm (.str ls)), some (.imm (.int pre.length)), some (.imm (.str [a])), none]) (P := fun _ => true)
        (g := fun d => match d with | .str z => .str (a :: z) | d => d) (ds := (ones r).map .str) (by
          intro d hd
          rw [List.map_map] at hd
          obtain ⟨c, hc, rfl⟩ := List.mem_map.mp hd
          refine ⟨[some (.imm (.str ls)), some (.imm (.int pre.length)), some (.imm (.str [a])), some (.imm (.str [c]))], rfl, rfl, fun _ => ?_, rfl⟩
          simp [op2F, readF, res, addD, lim])
      rw [this, List.filter_eq_self.mpr fun _ _ => rfl]
      simp [ones, List.map_map, Function.comp_def]
    have hl2 : lim (n + ((ones r).map D.str).length) := by
      unfold lim
      simp
      omega
    have hlen : ((r.map fun b => [a, b]).map D.str).length = r.length := by simp
    simp only [ones, List.map_cons, numD, pairsD, List.map_cons] at ih ⊢
    unfold comp2L
    have st : setTg (.tp [(.nm 1), (.nm 2)]) (.tup [.int pre.length, .str [a]]) [some (.imm (.str ls)), none, none, none] = .ok [some (.imm (.str ls)), some (.imm (.int pre.length)), some (.imm (.str [a])), none] := rfl
    have wd : wipeD [3] [some (.imm (.str ls)), some (.imm (.int pre.length)), some (.imm (.str [a])), none] = .ok [some (.imm (.str ls)), some (.imm (.int pre.length)), some (.imm (.str [a])), none] := rfl
    have wd2 : wipeD [1, 2, 3] [some (.imm (.str ls)), some (.imm (.int pre.length)), some (.imm (.str [a])), none] = .ok [some (.imm (.str ls)), none, none, none] := rfl
    simp only [st, ok_bind, yesT, noX_ok, if_true, hw, hl2, lockD, wd, hc, unlockD, wd2, hlen, ih, pure_ok, prs, List.map_append]
theorem f_pairs_of {ls : List Ch} (hl : ls.length ≤ 26) : F_pairs_of [.imm (.str ls)] = .ok (.imm (.lst ((prs ls).map .str)), none) := by
  have hp : (prs ls).length ≤ 1000 := by
    have := prs_len ls
    have := Nat.mul_le_mul hl hl
    omega
  have e := pairs_go ls hl ls [] 0 rfl (by omega)
  simp only [List.length_nil] at e
  have e2 : Nv (comp2F (enumF (consA (readF 0) (nilA))) (.tp [(.nm 1), (.nm 2)]) (yesT) (walkF (slF (readF 0) (someO (op2F addD (readF 1) (cstF (.int (1))))) (noO))) (.nm 3) (yesT) (op2F addD (readF 2) (readF 3)) [1, 2, 3] [3]) [some (.imm (.str ls)), none, none, none] (.lst ((prs ls).map .str)) [some (.imm (.str ls)), none, none, none] := by
    have g : Iv (enumF (consA (readF 0) (nilA))) [some (.imm (.str ls)), none, none, none] _ _ := i_enum (e_read rfl) (items_str ls)
    have w : wipeD [1, 2, 3] [some (.imm (.str ls)), none, none, none] = .ok [some (.imm (.str ls)), none, none, none] := rfl
    have b : backD [some (.imm (.str ls)), none, none, none] [1, 2, 3] [some (.imm (.str ls)), none, none, none] = [some (.imm (.str ls)), none, none, none] := rfl
    simp only [Iv, Nv] at g ⊢
    simp only [comp2F, g, ok_bind, lockD, w, e, unlockD, b, pure_ok]
  unfold F_pairs_of
  exact fn_rt (δ' := [some (.imm (.str ls)), none, none, none]) (s_ret (e_fresh e2)) rfl
/-! close_row -/
theorem in_strs (p : List Ch) (cs : List (List Ch)) (hp : p.length = 2) : inD (.str p) (.tup (cs.map .str)) = some (.bl (decide (p ∈ cs))) := by
  match p, hp with
  | [a, b], _ =>
    simp only [inD]
    refine (if_pos ?_).trans (by rw [any_str])
    rw [List.all_eq_true]
    intro y hy
    obtain ⟨q, _, rfl⟩ := List.mem_map.mp hy
    rfl
theorem in_strl (p : List Ch) (cs : List (List Ch)) : inD (.str p) (.lst (cs.map .str)) = some (.bl (decide (p ∈ cs))) := by
  have e : (D.flat 60 (.str p) && D.flat 60 (.lst (cs.map .str))) = true := by
    simp only [D.flat, flats_str, Bool.and_self]
  match p, e with
  | [], e => exact (if_pos e).trans (by rw [any_str])
  | [a], e => exact (if_pos e).trans (by rw [any_str])
  | a :: b :: r, e => exact (if_pos e).trans (by rw [any_str])
theorem lt2_len (a b : Ch) : (lt2 [a] [b]).length = 2 := by
  rw [lt2_c]
  split <;> rfl
theorem lenSum_ones : ∀ s : List Ch, lenSum (ones s) = s.length
  | [] => rfl
  | a :: s => by
    have := lenSum_ones s
    simp [lenSum, ones] at this ⊢
    omega
theorem f_close_row {w : Wb} (h : w.Ok) (x : Ch) : F_close_row [.imm (.str w.ls), .imm (.tup (w.cs.map .str)), .imm (.str [x])] = .ok (.imm (.str (row w x)), none) := by
  have hf := h.few
  have h0 : lim w.ls.length := by unfold lim; omega
  have e : compF (walkF (readF 0)) (.nm 3) (orT (boolF (op2F eqD (readF 3) (readF 2))) (boolF (op2F inD (callF F_pair_of [] (consA (readF 2) (consA (readF 3) (nilA)))) (readF 1)))) (readF 3) [3]
      [some (.imm (.str w.ls)), some (.imm (.tup (w.cs.map .str))), some (.imm (.str [x])), none] = .ok (.lst ((ones (row w x)).map .str), [some (.imm (.str w.ls)), some (.imm (.tup (w.cs.map .str))), some (.imm (.str [x])), none]) := by
    rw [comp_nm (P := fun d => match d with | .str [y] => y == x || adj w x y | _ => false) (g := id) (walk_at rfl (items_str w.ls)) (by simpa using h0) (.inl rfl) ?_]
    · congr 3
      rw [List.map_id]
      unfold row
      rw [List.map_map, List.map_map, List.filter_map]
      rfl
    · intro d hd
      rw [List.map_map] at hd
      obtain ⟨y, hy, rfl⟩ := List.mem_map.mp hd
      simp only [Function.comp, List.set_cons_succ, List.set_cons_zero]
      refine ⟨?_, fun _ => e_read rfl⟩
      have ei := in_strs (lt2 [x] [y]) w.cs (lt2_len x y)
      have eq : ([y] == [x]) = (y == x) := by simp
      have e1 : Tv (boolF (op2F eqD (readF 3) (readF 2))) [some (.imm (.str w.ls)), some (.imm (.tup (w.cs.map .str))), some (.imm (.str [x])), some (.imm (.str [y]))] (y == x) [some (.imm (.str w.ls)), some (.imm (.tup (w.cs.map .str))), some (.imm (.str [x])), some (.imm (.str [y]))] :=
        t_bool (e_op2 (e_read rfl) (e_read rfl) (by simp only [eqD, D.flat, Bool.and_self, if_true, eqb_str, eq]))
      have e2 : Tv (boolF (op2F inD (callF F_pair_of [] (consA (readF 2) (consA (readF 3) (nilA)))) (readF 1))) [some (.imm (.str w.ls)), some (.imm (.tup (w.cs.map .str))), some (.imm (.str [x])), some (.imm (.str [y]))] (adj w x y) [some (.imm (.str w.ls)), some (.imm (.tup (w.cs.map .str))), some (.imm (.str [x])), some (.imm (.str [y]))] :=
        t_bool (e_op2 (e_call (a_two (e_read rfl) (e_read rfl)) (f_pair_of [x] [y] (by simp [lim]))) (e_read rfl) ei)
      cases hh : y == x with
      | true =>
        rw [hh] at e1
        exact t_or_t e1
      | false =>
        rw [hh] at e1
        exact t_or_f e1 e2
  unfold F_close_row
  have hj : lenSum (ones (row w x)) + (ones (row w x)).length * ([] : List Ch).length ≤ 16777216 := by
    rw [lenSum_ones]
    have : (row w x).length ≤ w.ls.length := List.length_filter_le _ _
    simp
    omega
  refine fn_rt (δ' := [some (.imm (.str w.ls)), some (.imm (.tup (w.cs.map .str))), some (.imm (.str [x])), none]) (s_ret (e_mt e_cst rfl (a_one (e_fresh e)) ?_)) rfl
  simp only [joinD, strs_of, Option.bind_some]
  rw [if_pos hj, joinC_nil, ones_flat]
end K03
set_option Elab.async false
set_option linter.all false
set_option maxRecDepth 100000
namespace K03
open PySem DE
theorem sub_len {α : Type} [DecidableEq α] : ∀ {l m : List α}, l.Nodup → (∀ x ∈ l, x ∈ m) → l.length ≤ m.length
  | [], m, _, _ => Nat.zero_le _
  | a :: l, m, hn, hs => by
    obtain ⟨h1, h2⟩ := List.nodup_cons.mp hn
    have ha := hs a List.mem_cons_self
    have p := List.perm_cons_erase ha
    have := sub_len (m := m.erase a) h2 fun x hx => by
      rcases List.mem_cons.mp (p.mem_iff.mp (hs x (List.mem_cons_of_mem _ hx))) with e | e
      · exact absurd (e ▸ hx) h1
      · exact e
    have := p.length_eq
    simp only [List.length_cons] at this ⊢
    omega
theorem Wb.Ok.cl {w : Wb} (h : w.Ok) : w.cs.length ≤ 100 := by
  have h1 := sub_len (cas_nodup h.cas) h.sub
  have h2 := prs_len w.ls
  have h3 := Nat.mul_le_mul h.few h.few
  omega
theorem f_confl {w : Wb} (h : w.Ok) : F_are_conflicts [.imm (.str w.ls), .imm (.tup (w.cs.map .str))] = .ok (.imm (.bl true), none) := by
  have hf := h.few
  have hc := h.cl
  have e : Nv (compF (walkF (readF 1)) (.nm 3) (yesT) (andF (isiF (isiTab [("NoneType", false), ("bool", false), ("int", false), ("str", true), ("tuple", false), ("list", false), ("dict", false)] []) (readF 3)) (op2F inD (readF 3) (readF 2))) [3])
      [some (.imm (.str w.ls)), some (.imm (.tup (w.cs.map .str))), some (.imm (.lst ((prs w.ls).map .str))), none] (.lst ((w.cs.map D.str).map fun _ => .bl true)) [some (.imm (.str w.ls)), some (.imm (.tup (w.cs.map .str))), some (.imm (.lst ((prs w.ls).map .str))), none] := by
    refine comp_all (walk_at rfl rfl) (by simp [lim]; omega) (.inl rfl) ?_
    intro d hd
    obtain ⟨p, hp, rfl⟩ := List.mem_map.mp hd
    have hi := in_strl p (prs w.ls)
    rw [decide_eq_true (h.sub p hp)] at hi
    exact e_and_t (e_isi (e_read rfl) rfl (by simp [isiTab, List.lookup])) (e_op2 (e_read rfl) (e_read rfl) hi)
  unfold F_are_conflicts
  refine fn_rt (δ' := [some (.imm (.str w.ls)), some (.imm (.tup (w.cs.map .str))), some (.imm (.lst ((prs w.ls).map .str))), none]) ?_ rfl
  refine s_seq (s_if_f (t_not (k := true) (t_truth (e_isi (k := true) (e_read rfl) rfl (by simp [isiTab, List.lookup])) rfl)) s_next) ?_
  refine s_seq (s_set (e_call (a_one (e_read rfl)) (f_pairs_of (by omega)))) ?_
  exact s_ret (e_and_t (e_bi (a_one (e_fresh e)) (all_true _)) (e_call (a_one (e_read rfl)) (f_asc_tup h.cas (by omega))))
/-- a web as data -/
def closeD (w : Wb) : D := .dk (w.ls.map fun x => .s [x]) (w.ls.map fun x => .str (row w x))
def webD (w : Wb) : D := .obj 0 [closeD w, .tup (w.cs.map .str), .str w.ls]
theorem s_stoSl {c i : Nat} {f : FE} {δ δ1 : Dl} {d : D} {fs : List D} (h1 : Ev f δ d δ1) (h2 : δ1[0]? = some (some (.par (.obj c fs)))) : Sv (stoSlS c i (readF 0) f) δ (δ1.set 0 (some (.par (.obj c (putSl fs i d))))) := by
  simp only [Ev, Sv] at *
  simp only [stoSlS, h1, ok_bind, takeR, readF, h2, stoSlP, S.live, if_true, S.con, S.put, pure_ok]
theorem key_inj (a b : Ch) (h : DK.s [a] = DK.s [b]) : a = b := by simpa using h
theorem f_init {w : Wb} (h : w.Ok) : F_Web___init__ [.par (.obj 0 []), .imm (.str w.ls), .imm (.tup (w.cs.map .str))] = .ok (.imm .non, some (webD w)) := by
  have hf := h.few
  let δ : Dl := [some (.par (.obj 0 [.undef, .tup (w.cs.map .str), .str w.ls])), some (.imm (.str w.ls)), some (.imm (.tup (w.cs.map .str))), none]
  have e : Nv (dcF (walkF (readF 1)) (.nm 3) (yesT) (readF 3) (callF F_close_row [] (consA (readF 1) (consA (readF 2) (consA (readF 3) (nilA))))) [3]) δ (closeD w) δ := by
    have := dc_nm (gi := walkF (readF 1)) (k := 3) (fk := readF 3) (fv := callF F_close_row [] (consA (readF 1) (consA (readF 2) (consA (readF 3) (nilA))))) (δ := δ) (kd := id) (key := fun d => match d with | .str z => .s z | _ => .i 0)
      (g := fun d => match d with | .str [x] => .str (row w x) | _ => .non) (items := (ones w.ls).map .str) (i_walk (e_read rfl) (items_str w.ls)) (by simp [lim]; omega) (.inl rfl) (fun d hd => by
        rw [List.map_map] at hd
        obtain ⟨x, hx, rfl⟩ := List.mem_map.mp hd
        exact ⟨e_read rfl, rfl, e_call (a_three (e_read rfl) (e_read rfl) (e_read rfl)) (f_close_row h x)⟩) (by
        rw [List.map_map, List.map_map]
        exact nodup_map h.nd fun x _ y _ e => key_inj x y e)
    simp only [List.map_map, ones] at this
    exact this
  unfold F_Web___init__
  refine fn_nx (δ' := [some (.par (webD w)), some (.imm (.str w.ls)), some (.imm (.tup (w.cs.map .str))), none]) ?_ rfl
  refine s_seq (s_if_f (t_or_f (t_not (k := true) (t_truth (e_call (a_one (e_read rfl)) (f_letters h.asc h.low (by omega))) rfl)) (t_bool (k := false) (e_op2 (e_bi (a_one (e_read rfl)) (d := .int w.ls.length) ?_) e_cst ?_))) s_next) ?_
  · simp only [lenD]
    rw [if_pos (by simp [lim]; omega)]
  · simp only [gtD, ltD]
    rw [decide_eq_false (by omega)]
  refine s_seq (s_if_f (t_not (k := true) (t_truth (e_call (a_two (e_read rfl) (e_read rfl)) (f_confl h)) rfl)) s_next) ?_
  refine s_seq (s_stoSl (e_read rfl) rfl) ?_
  refine s_seq (s_stoSl (e_read rfl) rfl) ?_
  exact s_stoSl (e_dict e) rfl
theorem e_web {w : Wb} (h : w.Ok) {fa : FA} {δ δ1 : Dl} (h1 : Av fa δ [.str w.ls, .tup (w.cs.map .str)] δ1) : Ev (makeF 0 F_Web___init__ [] fa) δ (webD w) δ1 := e_make h1 (f_init h)
end K03
set_option Elab.async false
set_option linter.all false
set_option maxRecDepth 100000
namespace K03
open PySem DE
/-! ### dice -/
theorem e_roll {f : FE} {δ : Dl} {a b c t : Int} (h0 : δ[0]? = some (some (.par (diceD a b c)))) (h1 : Ev f δ (.int t) δ) (ht : 0 < t) (ht2 : t < 1073741824) :
    ∃ r a' c', Ev (callIF F__law_roll [] (consA (readF 0) (consA f nilA))) δ (.int r) (δ.set 0 (some (.par (diceD a' b c')))) ∧ 0 ≤ r ∧ r < t := by
  obtain ⟨r, a', c', e, h2, h3⟩ := f_roll a b c t ht ht2
  exact ⟨r, a', c', e_callI (s := .par (diceD a b c)) (a_one h1) h0 (by simp only [readF, h0]) rfl e, h2, h3⟩
theorem e_mixed {f : FE} {δ : Dl} {a b c : Int} {xs : List D} (h0 : δ[0]? = some (some (.par (diceD a b c)))) (h1 : Ev f δ (.lst xs) δ) (hn : xs.length < 16777216) :
    ∃ ys a' c', Ev (callIF F__law_mixed [] (consA (readF 0) (consA f nilA))) δ (.lst ys) (δ.set 0 (some (.par (diceD a' b c')))) ∧ ys.Perm xs := by
  obtain ⟨a', c', ys, e, h2⟩ := f_mixed a b c xs hn
  exact ⟨ys, a', c', e_callI (s := .par (diceD a b c)) (a_one h1) h0 (by simp only [readF, h0]) rfl e, h2⟩
theorem e_mu {ty : String} {g : D → List D → Option (D × D)} {fa : FA} {δ δ1 : Dl} {j : Nat} {d0 d1 ret new : D} {ds : List D} (h0 : δ[j]? = some (some (.own d0))) (h1 : isTy ty d0 = true) (h2 : Av fa δ ds δ1) (h3 : δ1[j]? = some (some (.own d1))) (h4 : g d1 ds = some (ret, new)) :
    Ev (muF ty g (readF j) fa) δ ret (δ1.set j (some (.own new))) := by
  simp only [Ev, Av] at *
  simp only [muF, readF, h0, ok_bind, res, S.con, h1, if_true, h2, takeRs_imm, muP, h3, S.live, h4, ofO_some, pure_ok, S.put]
theorem compL_roll {t : Tg} {c : FT} {f : FE} {vs : List Nat} {δf : Int × Int → Dl} {δg : Int × Int → D → Dl} (h1 : ∀ p d, setTg t d (δf p) = .ok (δg p d)) (h2 : ∀ p d, ∃ k p', c (δg p d) = .ok (k, δg p' d)) (h3 : ∀ p d, f (δg p d) = .ok (.imm d, δg p d)) (h4 : ∀ p d, wipeD vs (δg p d) = .ok (δf p)) :
    ∀ (items : List D) (p : Int × Int), ∃ p' sub, List.Sublist sub items ∧ compL t c f vs items (δf p) = .ok (sub, δf p')
  | [], p => ⟨p, [], .slnil, rfl⟩
  | d :: ds, p => by
    obtain ⟨k, p1, e⟩ := h2 p d
    obtain ⟨p2, sub, hs, e2⟩ := compL_roll h1 h2 h3 h4 ds p1
    cases k with
    | true =>
      refine ⟨p2, d :: sub, hs.cons₂ d, ?_⟩
      unfold compL
      simp only [h1, ok_bind, e, noX_ok, if_true, h3, takeR, h4, e2, pure_ok]
    | false =>
      refine ⟨p2, sub, hs.cons d, ?_⟩
      unfold compL
      simp only [h1, ok_bind, e, noX_ok, Bool.false_eq_true, if_false, h4, e2]
theorem f_some (a b c : Int) (xs : List D) (hn : xs.length < 16777216) : ∃ a' c' sub, F__law_some [.par (diceD a b c), .imm (.lst xs)] = .ok (.imm (.lst sub), some (diceD a' b c')) ∧ sub.Sublist xs := by
  obtain ⟨p, sub, hs, e⟩ := compL_roll (t := .nm 2) (c := boolF (op2F eqD (callIF F__law_roll [] (consA (readF 0) (consA (cstF (.int (2))) (nilA)))) (cstF (.int (0))))) (f := readF 2) (vs := [2])
    (δf := fun p => [some (.par (diceD p.1 b p.2)), some (.imm (.lst xs)), none]) (δg := fun p d => [some (.par (diceD p.1 b p.2)), some (.imm (.lst xs)), some (.imm d)]) (fun _ _ => rfl) (fun p d => by
      obtain ⟨r, a', c', e, _⟩ := e_roll (f := cstF (.int 2)) (δ := [some (.par (diceD p.1 b p.2)), some (.imm (.lst xs)), some (.imm d)]) (a := p.1) (b := b) (c := p.2) (t := 2) rfl e_cst (by decide) (by decide)
      exact ⟨r == 0, (a', c'), t_bool (e_op2 e e_cst rfl)⟩) (fun _ _ => e_read rfl) (fun _ _ => rfl) xs (a, c)
  refine ⟨p.1, p.2, sub, ?_, hs⟩
  unfold F__law_some
  have hl : lim xs.length := by unfold lim; omega
  refine fn_rt (δ' := [some (.par (diceD p.1 b p.2)), some (.imm (.lst xs)), none]) (s_ret (e_fresh (d := .lst sub) ?_)) rfl
  have g : Iv (walkF (readF 1)) [some (.par (diceD a b c)), some (.imm (.lst xs)), none] xs [some (.par (diceD a b c)), some (.imm (.lst xs)), none] := i_walk (e_read rfl) rfl
  have w : wipeD [2] [some (.par (diceD a b c)), some (.imm (.lst xs)), none] = .ok [some (.par (diceD a b c)), some (.imm (.lst xs)), none] := rfl
  simp only [Iv, Nv] at g ⊢
  simp only [List.map_cons, List.map_nil, List.length_cons, List.length_nil, List.replicate, List.cons_append, List.nil_append, Nat.zero_add, Nat.reduceAdd, Nat.reduceSub, compF, g, ok_bind, hl, if_true, lockD, w, e, pure_ok, unlockD]
  rfl
/-! all pairs of letters -/
theorem lpairs_go (ls : List Ch) (hl : ls.length ≤ 26) : ∀ (suf pre : List Ch) (acc : List (List Ch)) (k2 k3 : Option S), pre ++ suf = ls → free1 k2 → free1 k3 → acc.length + (prs suf).length ≤ 1000 →
    ∃ m2 m3, forL (.tp [(.nm 2), (.nm 3)]) (exprS (muF "list" extD (readF 1) (consA (freshF (compF (walkF (slF (readF 0) (someO (op2F addD (readF 2) (cstF (.int (1))))) (noO))) (.nm 4) (yesT) (op2F addD (readF 3) (readF 4)) [4])) (nilA))))
      (pairsD (numD pre.length ((ones suf).map .str))) [some (.imm (.str ls)), some (.own (.lst (acc.map .str))), k2, k3, none] = .ok (.nx, [some (.imm (.str ls)), some (.own (.lst ((acc ++ prs suf).map .str))), m2, m3, none])
  | [], pre, acc, k2, k3, _, _, _, _ => ⟨k2, k3, by simp [ones, numD, pairsD, forL, prs]⟩
  | a :: r, pre, acc, k2, k3, h, hk2, hk3, hn => by
    have h0 : lim ls.length := by unfold lim; omega
    have hr : ls.drop (pre.length + 1) = r := by
      rw [← h, List.drop_append]
      simp
    have hrl : r.length ≤ 26 := by
      rw [← h] at hl
      simp at hl
      omega
    simp only [prs, List.length_append, List.length_map] at hn
    obtain ⟨m2, m3, ih⟩ := lpairs_go ls hl r (pre ++ [a]) (acc ++ r.map fun b => [a, b]) (some (.imm (.int pre.length))) (some (.imm (.str [a]))) (by simpa using h) (.inr ⟨_, rfl⟩) (.inr ⟨_, rfl⟩) (by simp; omega)
    rw [List.length_append, List.length_singleton] at ih
    refine ⟨m2, m3, ?_⟩
    let δ : Dl := [some (.imm (.str ls)), some (.own (.lst (acc.map .str))), some (.imm (.int pre.length)), some (.imm (.str [a])), none]
    have hw : Iv (walkF (slF (readF 0) (someO (op2F addD (readF 2) (cstF (.int (1))))) (noO))) δ ((ones r).map .str) δ := by
      have e := cut_from ls (pre.length + 1)
      rw [hr] at e
      have e2 : ((pre.length : Int) + 1) = ((pre.length + 1 : Nat) : Int) := by simp
      refine i_walk (d := .str r) ?_ (items_str r)
      rw [← e]
      exact e_slS (e_read rfl) (o_some (e_op2 (e_read rfl) e_cst (by simp only [addD, e2]))) o_no h0
    have hc : Nv (compF (walkF (slF (readF 0) (someO (op2F addD (readF 2) (cstF (.int (1))))) (noO))) (.nm 4) (yesT) (op2F addD (readF 3) (readF 4)) [4]) δ (.lst ((r.map fun b => [a, b]).map .str)) δ := by
      have := comp_all (k := 4) (f := op2F addD (readF 3) (readF 4)) (g := fun d => match d with | .str z => .str (a :: z) | d => d) hw (by simp [lim]; omega) (.inl rfl) (fun d hd => by
        rw [List.map_map] at hd
        obtain ⟨c, hc, rfl⟩ := List.mem_map.mp hd
        exact e_op2 (e_read rfl) (e_read rfl) (by simp [addD, lim]))
      simp only [ones, List.map_map] at this ⊢
      exact this
    have st : setTg (.tp [(.nm 2), (.nm 3)]) (.tup [.int pre.length, .str [a]]) [some (.imm (.str ls)), some (.own (.lst (acc.map .str))), k2, k3, none] = .ok δ := by
      rcases hk2 with rfl | ⟨x, rfl⟩ <;> rcases hk3 with rfl | ⟨y, rfl⟩ <;> rfl
    have bd := s_expr (e_mu (ty := "list") (g := extD) (j := 1) (δ := δ) (d0 := .lst (acc.map .str)) (ret := .non) (new := .lst ((acc ++ r.map fun b => [a, b]).map .str)) rfl rfl (a_one (e_fresh hc)) rfl (by
      simp only [extD, List.length_map]
      rw [if_pos (by unfold lim; omega), List.map_append]))
    simp only [ones, List.map_cons, numD, pairsD] at ih ⊢
    unfold forL
    rw [st, ok_bind, bd, ok_bind]
    simp only [prs]
    rw [← List.append_assoc]
    exact ih
theorem f_lpairs {ls : List Ch} (hl : ls.length ≤ 26) : F__law_pairs [.imm (.str ls)] = .ok (.imm (.lst ((prs ls).map .str)), none) := by
  have hp : (prs ls).length ≤ 1000 := by
    have := prs_len ls
    have := Nat.mul_le_mul hl hl
    omega
  obtain ⟨m2, m3, e⟩ := lpairs_go ls hl ls [] [] none none rfl (.inl rfl) (.inl rfl) (by simpa using hp)
  simp only [List.length_nil, List.nil_append] at e
  unfold F__law_pairs
  refine fn_rt (δ' := [some (.imm (.str ls)), some (.imm (.lst ((prs ls).map .str))), m2, m3, none]) ?_ rfl
  refine s_seq (s_setN (n_lst a_nil (by unfold lim; simp))) ?_
  refine s_seq (s_for (i_enum (e_read rfl) (items_str ls)) e) ?_
  simp only [retS, readF, List.getElem?_cons_succ, List.getElem?_cons_zero, ok_bind, takeR, isDk, Bool.false_eq_true, if_false, pure_ok, List.set_cons_succ, List.set_cons_zero]
end K03
set_option Elab.async false
set_option linter.all false
set_option maxRecDepth 100000
namespace K03
open PySem DE
/-! ### drawn webs -/
theorem prs_asc : ∀ {ls : List Ch}, ls.Pairwise (· < ·) → (prs ls).Pairwise (· < ·)
  | [], _ => by simp [prs]
  | a :: r, h => by
    obtain ⟨h1, h2⟩ := List.pairwise_cons.mp h
    simp only [prs]
    rw [List.pairwise_append]
    refine ⟨?_, prs_asc h2, ?_⟩
    · rw [List.pairwise_map]
      refine h2.imp fun {x y} q => ?_
      rw [List.cons_lt_cons_iff]
      exact .inr ⟨rfl, one_lt.mpr q⟩
    · intro p hp q hq
      obtain ⟨b, hb, rfl⟩ := List.mem_map.mp hp
      obtain ⟨c, d, hc, hd, hl, rfl⟩ := (mem_prs h2).mp hq
      rw [List.cons_lt_cons_iff]
      exact .inl (h1 c hc)
theorem perm_strs {ys : List D} {ss : List (List Ch)} (h : ys.Perm (ss.map .str)) : ∃ ts : List (List Ch), ys = ts.map .str ∧ ts.Perm ss := by
  let un : D → List Ch := fun d => match d with | .str z => z | _ => []
  have h1 := h.map un
  rw [List.map_map] at h1
  have e : un ∘ D.str = id := rfl
  rw [e, List.map_id] at h1
  refine ⟨ys.map un, ?_, h1⟩
  rw [List.map_map]
  conv => lhs; rw [← List.map_id ys]
  refine List.map_congr_left fun y hy => ?_
  obtain ⟨z, _, rfl⟩ := List.mem_map.mp (h.mem_iff.mp hy)
  rfl
theorem perm_ones {ys : List D} {l : List Ch} (h : ys.Perm ((ones l).map .str)) : ∃ s, ys = (ones s).map .str ∧ s.Perm l := by
  obtain ⟨ts, rfl, hp⟩ := perm_strs h
  refine ⟨ts.flatten, ?_, ?_⟩
  · congr 1
    have hm : ∀ p ∈ ts, ∃ c, p = [c] := fun p q => by
      obtain ⟨c, _, rfl⟩ := List.mem_map.mp (hp.mem_iff.mp q)
      exact ⟨c, rfl⟩
    clear hp h
    induction ts with
    | nil => rfl
    | cons p ts ih =>
      obtain ⟨c, rfl⟩ := hm p List.mem_cons_self
      have := ih fun q hq => hm q (List.mem_cons_of_mem _ hq)
      simp only [ones, List.flatten_cons, List.singleton_append, List.map_cons] at this ⊢
      exact congrArg _ this
  · have := hp.flatten
    rwa [ones_flat] at this
theorem sorted_strs (ss : List (List Ch)) : sortedD [.lst (ss.map .str)] = some (.lst ((sortS ss).map .str)) := by
  simp [sortedD, walkD, itemsD]
theorem tuple_lst (xs : List D) : tupleD [.lst xs] = some (.tup xs) := rfl
theorem len_lst (xs : List D) : lenD [.lst xs] = some (.int xs.length) := rfl
theorem f_conflicts {ls : List Ch} (a b c : Int) (h : ls.Pairwise (· < ·)) (hl : ls.length ≤ 10) : ∃ (a' c' : Int) (cs : List (List Ch)), F__law_conflicts [.par (diceD a b c), .imm (.str ls)] = .ok (.imm (.tup (cs.map .str)), some (diceD a' b c')) ∧ cs.Pairwise (· < ·) ∧ ∀ p ∈ cs, p ∈ prs ls := by
  have hp : (prs ls).length ≤ 100 := by
    have := prs_len ls
    have := Nat.mul_le_mul hl hl
    omega
  have hpa := prs_asc h
  have hn : ((prs ls).map D.str).length < 16777216 := by simp; omega
  have s1 : Sv (setS 2 (callF F__law_pairs [] (consA (readF 1) (nilA)))) [some (.par (diceD a b c)), some (.imm (.str ls)), none, none, none, none, none] [some (.par (diceD a b c)), some (.imm (.str ls)), some (.imm (.lst ((prs ls).map .str))), none, none, none, none] :=
    s_set (e_call (a_one (e_read rfl)) (f_lpairs (by omega)))
  obtain ⟨r, a1, c1, e1, hr0, hr1⟩ := e_roll (f := cstF (.int 8)) (δ := [some (.par (diceD a b c)), some (.imm (.str ls)), some (.imm (.lst ((prs ls).map .str))), none, none, none, none]) (t := 8) rfl e_cst (by decide) (by decide)
  have s2 := s_set (n := 3) e1
  simp only [List.set_cons_zero, List.set_cons_succ] at s2
  let δ : Dl := [some (.par (diceD a1 b c1)), some (.imm (.str ls)), some (.imm (.lst ((prs ls).map .str))), some (.imm (.int r)), none, none, none]
  have tq : ∀ z : Int, Tv (boolF (op2F eqD (readF 3) (cstF (.int z)))) δ (r == z) δ := fun z => t_bool (e_op2 (e_read rfl) e_cst rfl)
  by_cases q0 : r = 0
  · obtain ⟨a2, c2, sub, e2, hs⟩ := f_some a1 b c1 ((prs ls).map .str) hn
    obtain ⟨cs, hcs, rfl⟩ := List.sublist_map_iff.mp hs
    refine ⟨a2, c2, cs, ?_, hpa.sublist hcs, fun p hp => hcs.subset hp⟩
    have ec := e_callI (F := F__law_some) (fa := consA (readF 2) nilA) (δ := δ) (j := 0) (s := .par (diceD a1 b c1)) (a_one (e_read rfl)) rfl rfl rfl e2
    unfold F__law_conflicts
    have t0 : Tv (boolF (op2F eqD (readF 3) (cstF (.int 0)))) δ true δ := by
      have := tq 0
      rwa [beq_iff_eq.mpr q0] at this
    exact fn_rt (s_seq s1 (s_seq s2 (s_rt (s_if_t t0 (s_ret (e_bi (a_one ec) (tuple_lst _))))))) rfl
  · have t0 : Tv (boolF (op2F eqD (readF 3) (cstF (.int 0)))) δ false δ := by
      have := tq 0
      rwa [beq_eq_false_iff_ne.mpr q0] at this
    by_cases q1 : r = 1
    · have t1 : Tv (boolF (op2F eqD (readF 3) (cstF (.int 1)))) δ true δ := by
        have := tq 1
        rwa [beq_iff_eq.mpr q1] at this
      obtain ⟨p, sub, hs, e2⟩ := compL_roll (t := .nm 6) (c := boolF (op2F gtD (callIF F__law_roll [] (consA (readF 0) (consA (cstF (.int (3))) (nilA)))) (cstF (.int (0))))) (f := readF 6) (vs := [6])
        (δf := fun p => [some (.par (diceD p.1 b p.2)), some (.imm (.str ls)), some (.imm (.lst ((prs ls).map .str))), some (.imm (.int r)), none, none, none]) (δg := fun p d => [some (.par (diceD p.1 b p.2)), some (.imm (.str ls)), some (.imm (.lst ((prs ls).map .str))), some (.imm (.int r)), none, none, some (.imm d)]) (fun _ _ => rfl) (fun p d => by
          obtain ⟨r', a', c', e, _⟩ := e_roll (f := cstF (.int 3)) (δ := [some (.par (diceD p.1 b p.2)), some (.imm (.str ls)), some (.imm (.lst ((prs ls).map .str))), some (.imm (.int r)), none, none, some (.imm d)]) (a := p.1) (b := b) (c := p.2) (t := 3) rfl e_cst (by decide) (by decide)
          exact ⟨decide (0 < r'), (a', c'), t_bool (e_op2 e e_cst rfl)⟩) (fun _ _ => e_read rfl) (fun _ _ => rfl) ((prs ls).map .str) (a1, c1)
      obtain ⟨cs, hcs, rfl⟩ := List.sublist_map_iff.mp hs
      refine ⟨p.1, p.2, cs, ?_, hpa.sublist hcs, fun p hp => hcs.subset hp⟩
      have hlm : lim ((prs ls).map D.str).length := by unfold lim; omega
      have ec : Nv (compF (walkF (readF 2)) (.nm 6) (boolF (op2F gtD (callIF F__law_roll [] (consA (readF 0) (consA (cstF (.int (3))) (nilA)))) (cstF (.int (0))))) (readF 6) [6]) δ (.lst (cs.map .str)) [some (.par (diceD p.1 b p.2)), some (.imm (.str ls)), some (.imm (.lst ((prs ls).map .str))), some (.imm (.int r)), none, none, none] := by
        have g : Iv (walkF (readF 2)) δ ((prs ls).map .str) δ := i_walk (e_read rfl) rfl
        have w : wipeD [6] δ = .ok δ := rfl
        simp only [Iv, Nv] at g ⊢
        simp only [compF, g, ok_bind, hlm, if_true, lockD, w]
        rw [e2]
        rfl
      unfold F__law_conflicts
      exact fn_rt (s_seq s1 (s_seq s2 (s_seq (s_if_f t0 s_next) (s_rt (s_if_t t1 (s_ret (e_bi (a_one (e_fresh ec)) (tuple_lst _)))))))) rfl
    · have t1 : Tv (boolF (op2F eqD (readF 3) (cstF (.int 1)))) δ false δ := by
        have := tq 1
        rwa [beq_eq_false_iff_ne.mpr q1] at this
      have el : Ev (biF lenD (consA (readF 2) (nilA))) δ (.int (prs ls).length) δ := e_bi (a_one (e_read rfl)) (by rw [len_lst, List.length_map])
      have t2 : Tv (boolF (op2F ltD (biF lenD (consA (readF 2) (nilA))) (cstF (.int (2))))) δ (decide (((prs ls).length : Int) < 2)) δ := t_bool (e_op2 el e_cst rfl)
      by_cases q2 : ((prs ls).length : Int) < 2
      · rw [decide_eq_true q2] at t2
        refine ⟨a1, c1, prs ls, ?_, hpa, fun p hp => hp⟩
        unfold F__law_conflicts
        exact fn_rt (s_seq s1 (s_seq s2 (s_seq (s_if_f t0 s_next) (s_seq (s_if_f t1 s_next) (s_rt (s_if_t t2 (s_ret (e_bi (a_one (e_read rfl)) (tuple_lst _))))))))) rfl
      · rw [decide_eq_false q2] at t2
        obtain ⟨ys, a2, c2, e3, hy⟩ := e_mixed (f := readF 2) (δ := δ) rfl (e_read rfl) hn
        obtain ⟨ts, rfl, hts⟩ := perm_strs hy
        have s3 := s_set (n := 4) e3
        obtain ⟨m, a3, c3, e4, hm0, hm1⟩ := e_roll (f := op2F subD (biF lenD (consA (readF 2) (nilA))) (cstF (.int (1)))) (δ := [some (.par (diceD a2 b c2)), some (.imm (.str ls)), some (.imm (.lst ((prs ls).map .str))), some (.imm (.int r)), some (.imm (.lst (ts.map .str))), none, none]) (a := a2) (b := b) (c := c2) (t := (prs ls).length - 1) rfl
          (e_op2 (e_bi (a_one (e_read rfl)) (by rw [len_lst, List.length_map])) e_cst rfl) (by omega) (by omega)
        obtain ⟨k, rfl⟩ : ∃ k : Nat, m = (k : Int) := ⟨m.toNat, by omega⟩
        have e5 : Ev (op2F addD (cstF (.int (1))) (callIF F__law_roll [] (consA (readF 0) (consA (op2F subD (biF lenD (consA (readF 2) (nilA))) (cstF (.int (1)))) (nilA))))) _ (.int ((1 + k : Nat) : Int)) _ := e_op2 e_cst e4 (by simp [addD])
        have s4 := s_set (n := 5) e5
        refine ⟨a3, c3, sortS (ts.take (1 + k)), ?_, sortS_asc ((hts.symm.nodup (cas_nodup hpa)).sublist (List.take_sublist _ _)), fun p hp => hts.mem_iff.mp ((List.take_sublist _ _).subset ((sortS_perm _).mem_iff.mp hp))⟩
        have n1 : Nv (slN (readF 4) (noO) (someO (readF 5))) [some (.par (diceD a3 b c3)), some (.imm (.str ls)), some (.imm (.lst ((prs ls).map .str))), some (.imm (.int r)), some (.imm (.lst (ts.map .str))), some (.imm (.int ((1 + k : Nat) : Int))), none] (.lst ((ts.take (1 + k)).map .str)) [some (.par (diceD a3 b c3)), some (.imm (.str ls)), some (.imm (.lst ((prs ls).map .str))), some (.imm (.int r)), some (.imm (.lst (ts.map .str))), some (.imm (.int ((1 + k : Nat) : Int))), none] := by
          have := n_sl (δ := [some (.par (diceD a3 b c3)), some (.imm (.str ls)), some (.imm (.lst ((prs ls).map .str))), some (.imm (.int r)), some (.imm (.lst (ts.map .str))), some (.imm (.int ((1 + k : Nat) : Int))), none]) (f := readF 4) (e_read rfl) o_no (o_some (e_read (n := 5) rfl))
          rwa [cut_to, ← List.map_take] at this
        unfold F__law_conflicts
        exact fn_rt (s_seq s1 (s_seq s2 (s_seq (s_if_f t0 s_next) (s_seq (s_if_f t1 s_next) (s_seq (s_if_f t2 s_next) (s_seq s3 (s_seq s4 (s_ret (e_bi (a_one (e_fresh (n_bi (a_one (e_fresh n1)) (sorted_strs _)))) (tuple_lst _)))))))))) rfl
end K03
set_option Elab.async false
set_option linter.all false
set_option maxRecDepth 100000
namespace K03
open PySem DE
def abc : List Ch := [97, 98, 99, 100, 101, 102, 103, 104, 105, 106, 107, 108, 109, 110, 111, 112, 113, 114, 115, 116, 117, 118, 119, 120, 121, 122]
theorem abc_val : abc.map Fin.val = [97, 98, 99, 100, 101, 102, 103, 104, 105, 106, 107, 108, 109, 110, 111, 112, 113, 114, 115, 116, 117, 118, 119, 120, 121, 122] := rfl
theorem nodup_of_map {α β : Type} {g : α → β} : ∀ {l : List α}, (l.map g).Nodup → l.Nodup
  | [], _ => by simp
  | a :: l, h => by
    simp only [List.map_cons, List.nodup_cons] at h ⊢
    exact ⟨fun q => h.1 (List.mem_map_of_mem q), nodup_of_map h.2⟩
theorem abc_nd : abc.Nodup := nodup_of_map (g := Fin.val) (by rw [abc_val]; decide)
theorem low_iff (c : Ch) : isLow c = true ↔ 97 ≤ c.val ∧ c.val ≤ 122 := by
  unfold isLow
  simp only [one_lt, Bool.and_eq_true, Bool.not_eq_true', decide_eq_false_iff_not]
  constructor
  · rintro ⟨h1, h2⟩
    exact ⟨Nat.le_of_not_lt h1, Nat.le_of_not_lt h2⟩
  · rintro ⟨h1, h2⟩
    exact ⟨Nat.not_lt.mpr h1, Nat.not_lt.mpr h2⟩
theorem abc_low (c : Ch) (h : c ∈ abc) : isLow c = true := by
  rw [low_iff]
  have : c.val ∈ abc.map Fin.val := List.mem_map_of_mem h
  rw [abc_val] at this
  revert this
  exact (by decide : ∀ n ∈ [97, 98, 99, 100, 101, 102, 103, 104, 105, 106, 107, 108, 109, 110, 111, 112, 113, 114, 115, 116, 117, 118, 119, 120, 121, 122], 97 ≤ n ∧ n ≤ 122) c.val
theorem list_str {z : List Ch} (h : z.length ≤ 1000) : listD [.str z] = some (.lst ((ones z).map .str)) := by
  simp only [listD, walkD, items_str]
  rw [if_pos (by unfold lim; omega)]
  rfl
theorem join_ones {s : List Ch} (h : s.length ≤ 1000) : joinD (.str []) [.lst ((ones s).map .str)] = some (.str s) := by
  simp only [joinD, strs_of, Option.bind_some]
  rw [if_pos (by rw [lenSum_ones]; simp; omega), joinC_nil, ones_flat]
theorem join_sorted {s : List Ch} (h : s.length ≤ 1000) : joinD (.str []) [.lst ((sortS (ones s)).map .str)] = some (.str (srt s)) := by
  simp only [joinD, strs_of, Option.bind_some]
  have : lenSum (sortS (ones s)) = s.length := by
    rw [← lenSum_ones s]
    exact ((sortS_perm (ones s)).map _).sum_nat
  rw [if_pos (by rw [this]; simp; omega)]
  rfl
/-- sorted(..) of drawn letters, joined -/
theorem e_srt {f : FN} {δ δ1 : Dl} {s : List Ch} (h : Nv f δ (.lst ((ones s).map .str)) δ1) (hs : s.length ≤ 1000) : Ev (mtF "str" joinD (cstF (.str [])) (consA (freshF (biN sortedD (consA (freshF f) (nilA)))) (nilA))) δ (.str (srt s)) δ1 :=
  e_mt e_cst rfl (a_one (e_fresh (n_bi (a_one (e_fresh h)) (sorted_strs _)))) (join_sorted hs)
theorem srt_len (s : List Ch) : (srt s).length = s.length := (srt_perm s).length_eq
theorem f_any (a b c : Int) (m : Nat) (hm : m ≤ 8) : ∃ (a' c' : Int) (ls : List Ch), F__law_any_letters [.par (diceD a b c), .imm (.int 0), .imm (.int m)] = .ok (.imm (.str ls), some (diceD a' b c')) ∧ ls.Pairwise (· < ·) ∧ (∀ x ∈ ls, isLow x = true) ∧ ls.length ≤ m := by
  obtain ⟨r, a1, c1, e1, hr0, hr1⟩ := e_roll (f := op2F addD (op2F subD (readF 2) (readF 1)) (cstF (.int (1)))) (δ := [some (.par (diceD a b c)), some (.imm (.int 0)), some (.imm (.int m)), none]) (t := m - 0 + 1) rfl (e_op2 (e_op2 (e_read rfl) (e_read rfl) rfl) e_cst rfl) (by omega) (by omega)
  obtain ⟨k, rfl⟩ : ∃ k : Nat, r = (k : Int) := ⟨r.toNat, by omega⟩
  have s1 := s_set (n := 3) (e_op2 (o := addD) (f := readF 1) (d := .int (k : Int)) (e_read (n := 1) rfl) e1 (by simp [addD]))
  have el : Ev (freshF (biN listD (consA (cstF (.str abc)) (nilA)))) [some (.par (diceD a1 b c1)), some (.imm (.int 0)), some (.imm (.int m)), some (.imm (.int k))] (.lst ((ones abc).map .str)) [some (.par (diceD a1 b c1)), some (.imm (.int 0)), some (.imm (.int m)), some (.imm (.int k))] := e_fresh (n_bi (a_one e_cst) (list_str (by decide)))
  obtain ⟨ys, a2, c2, e2, hy⟩ := e_mixed rfl el (by decide)
  obtain ⟨s, rfl, hs⟩ := perm_ones hy
  have hnd : (s.take k).Nodup := (hs.symm.nodup abc_nd).sublist (List.take_sublist _ _)
  have n1 := n_sl e2 o_no (o_some (e_read (n := 3) (d := .int k) rfl))
  rw [cut_to, ← List.map_take, ← List.map_take] at n1
  have hlen : (s.take k).length ≤ m := by
    rw [List.length_take]
    omega
  refine ⟨a2, c2, srt (s.take k), ?_, (srt_asc hnd).1, fun x hx => abc_low x (hs.mem_iff.mp ((List.take_sublist _ _).subset ((srt_perm _).mem_iff.mp hx))), by rw [srt_len]; exact hlen⟩
  unfold F__law_any_letters
  exact fn_rt (s_seq s1 (s_ret (e_srt n1 (by omega)))) rfl
/-! names -/
def nameD (ls : List Ch) (f : Ch → Ch) : D := .dk (ls.map fun x => .s [x]) (ls.map fun x => .str [f x])
theorem name_nd {ls : List Ch} (h : ls.Nodup) : (ls.map fun x => DK.s [x]).Nodup := nodup_map h fun x _ y _ e => key_inj x y e
theorem name_get {ls : List Ch} {f : Ch → Ch} (h : ls.Nodup) {x : Ch} (hx : x ∈ ls) : ixD (nameD ls f) (.str [x]) = some (.str [f x]) := by
  simp only [nameD, ixD]
  exact dkGet_map (key := fun x => DK.s [x]) (g := fun x => D.str [f x]) hx (name_nd h) fun y _ e => key_inj y x e
theorem zip_fOf {ls s : List Ch} (h : ls.Nodup) (hl : ls.length = s.length) : ls.zip s = ls.map fun x => (x, fOf ls s x) := by
  conv => lhs; rw [← map_fOf h hl]
  exact zip_self ls
theorem n_name {f g : FE} {δ δ1 δ2 : Dl} {ls s : List Ch} {b : D} (h1 : Ev f δ (.str ls) δ1) (h2 : Ev g δ1 b δ2) (h3 : itemsD b = some ((ones s).map .str)) (hn : ls.Nodup) (hl : ls.length = s.length) (hs : ls.length ≤ 1000) :
    Nv (dzipN (consA f (consA g nilA))) δ (nameD ls (fOf ls s)) δ2 := by
  have hz : ((ones ls).map D.str).zip ((ones s).map .str) = ls.map fun x => (D.str [x], D.str [fOf ls s x]) := by
    rw [ones, ones, List.map_map, List.map_map, List.zip_map, zip_fOf hn hl, List.map_map]
    rfl
  have hd : ∀ l : List Ch, dzipL (pairsD (l.map fun x => (D.str [x], D.str [fOf ls s x]))) = some (l.map fun x => (DK.s [x], D.str [fOf ls s x])) := fun l => by
    induction l with
    | nil => rfl
    | cons x l ih =>
      simp only [pairsD, List.map_cons, dzipL, dkOf, Option.bind_some] at ih ⊢
      rw [ih]
      rfl
  have := n_dzip h1 h2 (items_str ls) h3 (l := ls.map fun x => (DK.s [x], D.str [fOf ls s x])) (by rw [hz, hd]) (by rw [hz]; unfold lim; simp; omega) (by
    rw [List.map_map]
    exact name_nd hn)
  rw [List.map_map, List.map_map] at this
  exact this
/-! mapped pairs -/
def twoS (f : Ch → Ch) : List Ch → List (List Ch)
  | [a, b] => sortS [[f a], [f b]]
  | _ => []
theorem n_pairs {δ : Dl} {w : Wb} {f : Ch → Ch} {gi : FI} (hw : w.Ok) (h3 : δ[3]? = some (some (.imm (nameD w.ls f)))) (h5 : openAt δ 5) (hg : Iv gi δ (w.cs.map .str) δ) :
    Nv (compF gi (.nm 5) (yesT) (freshF (biN sortedD (consA (freshF (lstN (consA (op2F ixD (readF 3) (op2F ixD (readF 5) (cstF (.int (0))))) (consA (op2F ixD (readF 3) (op2F ixD (readF 5) (cstF (.int (1))))) (nilA))))) (nilA)))) [5]) δ (.lst (w.cs.map fun p => .lst ((twoS f p).map .str))) δ := by
  have := comp_all (f := freshF (biN sortedD (consA (freshF (lstN (consA (op2F ixD (readF 3) (op2F ixD (readF 5) (cstF (.int (0))))) (consA (op2F ixD (readF 3) (op2F ixD (readF 5) (cstF (.int (1))))) (nilA))))) (nilA)))) (g := fun d => match d with | .str p => .lst ((twoS f p).map .str) | _ => .non) hg (by have := hw.cl; unfold lim; simp; omega) h5 (fun d hd => by
    obtain ⟨p, hp, rfl⟩ := List.mem_map.mp hd
    obtain ⟨a, b, ha, hb, hl, rfl⟩ := hw.pr hp
    have r5 : (δ.set 5 (some (.imm (.str [a, b]))))[5]? = some (some (.imm (.str [a, b]))) := List.getElem?_set_self h5.lt
    have r3 : (δ.set 5 (some (.imm (.str [a, b]))))[3]? = some (some (.imm (nameD w.ls f))) := by
      rw [List.getElem?_set_ne (by decide)]
      exact h3
    have ea : Ev (op2F ixD (readF 5) (cstF (.int (0)))) (δ.set 5 (some (.imm (.str [a, b])))) (.str [a]) (δ.set 5 (some (.imm (.str [a, b])))) := e_op2 (e_read r5) e_cst rfl
    have eb : Ev (op2F ixD (readF 5) (cstF (.int (1)))) (δ.set 5 (some (.imm (.str [a, b])))) (.str [b]) (δ.set 5 (some (.imm (.str [a, b])))) := e_op2 (e_read r5) e_cst rfl
    exact e_fresh (n_bi (a_one (e_fresh (n_lst (a_two (e_op2 (e_read r3) ea (name_get hw.nd ha)) (e_op2 (e_read r3) eb (name_get hw.nd hb))) (by unfold lim; simp)))) (sorted_strs [[f a], [f b]])))
  rw [List.map_map] at this
  exact this
theorem mp_len {w : Wb} (hw : w.Ok) (f : Ch → Ch) : lenSum (w.cs.map (mp f)) ≤ 200 := by
  have h : ∀ cs : List (List Ch), (∀ p ∈ cs, p ∈ w.cs) → lenSum (cs.map (mp f)) = 2 * cs.length := fun cs => by
    induction cs with
    | nil => intro _; rfl
    | cons p cs ih =>
      intro hc
      obtain ⟨a, b, _, _, _, rfl⟩ := hw.pr (hc p List.mem_cons_self)
      have := ih fun q hq => hc q (List.mem_cons_of_mem _ hq)
      have e : (mp f [a, b]).length = 2 := lt2_len _ _
      simp [lenSum] at this ⊢
      omega
  have := h w.cs fun _ h => h
  have := hw.cl
  omega
/-- sorted(["".join(pair) for pair in pairs]) -/
theorem n_joined {δ : Dl} {w : Wb} {f : Ch → Ch} (hw : w.Ok) (h4 : δ[4]? = some (some (.imm (.lst (w.cs.map fun p => .lst ((twoS f p).map .str)))))) (h5 : openAt δ 5) :
    Nv (biN sortedD (consA (freshF (compF (walkF (readF 4)) (.nm 5) (yesT) (mtF "str" joinD (cstF (.str [])) (consA (readF 5) (nilA))) [5])) (nilA))) δ (.lst ((sortS (w.cs.map (mp f))).map .str)) δ := by
  have := comp_all (f := mtF "str" joinD (cstF (.str [])) (consA (readF 5) (nilA))) (k := 5) (δ := δ) (g := fun d => match d with | .lst [.str a, .str b] => .str (a ++ b) | _ => .non) (i_walk (e_read h4) rfl) (by have := hw.cl; unfold lim; simp; omega) h5 (fun d hd => by
    obtain ⟨p, hp, rfl⟩ := List.mem_map.mp hd
    obtain ⟨a, b, ha, hb, hl, rfl⟩ := hw.pr hp
    have r5 := List.getElem?_set_self (a := (some (S.imm (D.lst ((twoS f [a, b]).map .str))))) h5.lt
    refine e_mt e_cst rfl (a_one (e_read r5)) ?_
    have : twoS f [a, b] = [[f a], [f b]] ∨ twoS f [a, b] = [[f b], [f a]] := by
      show (if leS [f a] [f b] then [[f a], [f b]] else [[f b], [f a]]) = _ ∨ (if leS [f a] [f b] then [[f a], [f b]] else [[f b], [f a]]) = _
      split
      · exact .inl rfl
      · exact .inr rfl
    rcases this with e | e <;> rw [e] <;> rfl)
  have e : (w.cs.map fun p => D.lst ((twoS f p).map .str)).map (fun d => match d with | D.lst [D.str a, D.str b] => D.str (a ++ b) | _ => D.non) = (w.cs.map (mp f)).map D.str := by
    rw [List.map_map, List.map_map]
    refine List.map_congr_left fun p hp => ?_
    obtain ⟨a, b, ha, hb, hl, rfl⟩ := hw.pr hp
    have : twoS f [a, b] = [[f a], [f b]] ∧ lt2 [f a] [f b] = [f a, f b] ∨ twoS f [a, b] = [[f b], [f a]] ∧ lt2 [f a] [f b] = [f b, f a] := by
      have h0 := sort_two (f a) (f b)
      have h1 : twoS f [a, b] = if leS [f a] [f b] then [[f a], [f b]] else [[f b], [f a]] := rfl
      have h2 : twoS f [a, b] = sortS [[f a], [f b]] := rfl
      rw [← h2, h1] at h0
      rw [h1]
      split
      · rename_i q
        rw [if_pos q] at h0
        exact .inl ⟨rfl, h0.symm⟩
      · rename_i q
        rw [if_neg q] at h0
        exact .inr ⟨rfl, h0.symm⟩
    simp only [Function.comp, mp]
    rcases this with ⟨e1, e2⟩ | ⟨e1, e2⟩ <;> rw [e1, e2] <;> rfl
  rw [e] at this
  exact n_bi (a_one (e_fresh this)) (sorted_strs _)
end K03
set_option Elab.async false
set_option linter.all false
set_option maxRecDepth 100000
namespace K03
open PySem DE
theorem f_wl (w : Wb) : F_Web_letters [.imm (webD w)] = .ok (.imm (.str w.ls), none) := by
  unfold F_Web_letters
  exact fn_rt (s_ret (e_slot (e_read rfl) rfl)) rfl
theorem f_wc (w : Wb) : F_Web_conflicts [.imm (webD w)] = .ok (.imm (.tup (w.cs.map .str)), none) := by
  unfold F_Web_conflicts
  exact fn_rt (s_ret (e_slot (e_read rfl) rfl)) rfl
theorem e_ls {δ : Dl} {k : Nat} {w : Wb} (h : δ[k]? = some (some (.imm (webD w)))) : Ev (propF 0 F_Web_letters (readF k)) δ (.str w.ls) δ := e_prop (e_read h) (f_wl w)
theorem e_cs {δ : Dl} {k : Nat} {w : Wb} (h : δ[k]? = some (some (.imm (webD w)))) : Ev (propF 0 F_Web_conflicts (readF k)) δ (.tup (w.cs.map .str)) δ := e_prop (e_read h) (f_wc w)
theorem len_str {z : List Ch} (h : z.length ≤ 1000) : lenD [.str z] = some (.int z.length) := by
  simp only [lenD]
  rw [if_pos (by unfold lim; omega)]
/-- a web's image -/
theorem image_ok {w : Wb} (hw : w.Ok) {s : List Ch} (hn : s.Nodup) (hlow : ∀ c ∈ s, isLow c = true) (hl : s.length = w.ls.length) :
    Wb.Ok ⟨srt s, sortS (w.cs.map (mp (fOf w.ls s)))⟩ ∧ Iso w ⟨srt s, sortS (w.cs.map (mp (fOf w.ls s)))⟩ (fOf w.ls s) := by
  have e := map_fOf hw.nd hl.symm
  have inj : ∀ {x y : Ch}, x ∈ w.ls → y ∈ w.ls → fOf w.ls s x = fOf w.ls s y → x = y := fun hx hy q => nodup_inj (by rw [e]; exact hn) hx hy q
  have hm : ∀ x ∈ w.ls, fOf w.ls s x ∈ srt s := fun x hx => (srt_perm s).mem_iff.mpr (by
    have := List.mem_map_of_mem (f := fOf w.ls s) hx
    rwa [e] at this)
  have nd : (w.cs.map (mp (fOf w.ls s))).Nodup := nodup_map (cas_nodup hw.cas) fun p h1 q h2 e => by
    obtain ⟨a, b, ha, hb, hl, rfl⟩ := hw.pr h1
    obtain ⟨c, d, hc, hd, hl2, rfl⟩ := hw.pr h2
    rcases lt2_inj (show lt2 [fOf w.ls s a] [fOf w.ls s b] = lt2 [fOf w.ls s c] [fOf w.ls s d] from e) with ⟨q1, q2⟩ | ⟨q1, q2⟩
    · rw [inj ha hc q1, inj hb hd q2]
    · have q1 := inj ha hd q1
      have q2 := inj hb hc q2
      subst q1
      subst q2
      exact absurd (show a.val < b.val from hl) (by have : b.val < a.val := hl2; omega)
  have ok : Wb.Ok ⟨srt s, sortS (w.cs.map (mp (fOf w.ls s)))⟩ := by
    refine ⟨(srt_asc hn).1, fun c hc => hlow c ((srt_perm s).mem_iff.mp hc), ?_, sortS_asc nd, fun p hp => ?_⟩
    · show (srt s).length ≤ 10
      rw [srt_len, hl]
      exact hw.few
    · obtain ⟨q, hq, rfl⟩ := List.mem_map.mp ((sortS_perm _).mem_iff.mp hp)
      obtain ⟨a, b, ha, hb, hl, rfl⟩ := hw.pr hq
      rw [mem_prs (srt_asc hn).1]
      show ∃ x y, x ∈ srt s ∧ y ∈ srt s ∧ x < y ∧ lt2 [fOf w.ls s a] [fOf w.ls s b] = [x, y]
      rw [lt2_c]
      split
      · rename_i q
        exact ⟨_, _, hm a ha, hm b hb, q, rfl⟩
      · rename_i q
        refine ⟨_, _, hm b hb, hm a ha, ?_, rfl⟩
        have h1 : ¬ (fOf w.ls s a).val < (fOf w.ls s b).val := q
        have h2 : (fOf w.ls s a).val ≠ (fOf w.ls s b).val := fun z => by
          have := inj ha hb (Fin.ext z)
          subst this
          exact absurd (show a.val < a.val from hl) (by omega)
        show (fOf w.ls s b).val < (fOf w.ls s a).val
        omega
  refine ⟨ok, (leads_iff hw ok ?_).mp (sortS_perm _).symm⟩
  show (w.ls.map (fOf w.ls s)).Perm (srt s)
  rw [e]
  exact (srt_perm s).symm
theorem f_planted {w : Wb} (hw : w.Ok) (a b c : Int) : ∃ (a' c' : Int) (v : Wb) (s : List Ch), F__law_planted [.par (diceD a b c), .imm (webD w)] = .ok (.imm (.tup [webD v, .str s]), some (diceD a' b c')) ∧ v.Ok ∧ ∃ f, s = w.ls.map f ∧ Iso w v f := by
  have hf := hw.few
  -- the first drawing
  have el : Ev (freshF (biN listD (consA (cstF (.str abc)) (nilA)))) [some (.par (diceD a b c)), some (.imm (webD w)), none, none, none, none] (.lst ((ones abc).map .str)) [some (.par (diceD a b c)), some (.imm (webD w)), none, none, none, none] := e_fresh (n_bi (a_one e_cst) (list_str (by decide)))
  obtain ⟨ys, a1, c1, e1, hy⟩ := e_mixed rfl el (by decide)
  obtain ⟨s1, rfl, hs1⟩ := perm_ones hy
  have n1 := n_sl e1 o_no (o_some (e_bi (a_one (e_ls (w := w) (k := 1) rfl)) (len_str (by omega))))
  rw [cut_to, ← List.map_take, ← List.map_take] at n1
  have st1 := s_set (n := 2) (e_fresh n1)
  simp only [List.set_cons_zero, List.set_cons_succ] at st1
  -- the second one
  obtain ⟨r, a2, c2, e2, _⟩ := e_roll (f := cstF (.int 2)) (δ := [some (.par (diceD a1 b c1)), some (.imm (webD w)), some (.imm (.lst ((ones (s1.take w.ls.length)).map .str))), none, none, none]) (t := 2) rfl e_cst (by decide) (by decide)
  have t2 : Tv (boolF (op2F eqD (callIF F__law_roll [] (consA (readF 0) (consA (cstF (.int (2))) (nilA)))) (cstF (.int (0))))) _ (r == 0) _ := t_bool (e_op2 e2 e_cst rfl)
  simp only [List.set_cons_zero, List.set_cons_succ] at t2
  have st2 : ∃ (a3 c3 : Int) (s : List Ch), s.Nodup ∧ (∀ x ∈ s, isLow x = true) ∧ s.length = w.ls.length ∧
      Sv (ifS (boolF (op2F eqD (callIF F__law_roll [] (consA (readF 0) (consA (cstF (.int (2))) (nilA)))) (cstF (.int (0))))) (setS 2 (callIF F__law_mixed [] (consA (readF 0) (consA (freshF (biN listD (consA (propF 0 F_Web_letters (readF 1)) (nilA)))) (nilA))))) (nextS))
        [some (.par (diceD a1 b c1)), some (.imm (webD w)), some (.imm (.lst ((ones (s1.take w.ls.length)).map .str))), none, none, none] [some (.par (diceD a3 b c3)), some (.imm (webD w)), some (.imm (.lst ((ones s).map .str))), none, none, none] := by
    cases hr : r == 0 with
    | false =>
      rw [hr] at t2
      refine ⟨a2, c2, s1.take w.ls.length, (hs1.symm.nodup abc_nd).sublist (List.take_sublist _ _), fun x hx => abc_low x (hs1.mem_iff.mp ((List.take_sublist _ _).subset hx)), ?_, s_if_f t2 s_next⟩
      rw [List.length_take, hs1.length_eq]
      have : abc.length = 26 := rfl
      omega
    | true =>
      rw [hr] at t2
      have el2 : Ev (freshF (biN listD (consA (propF 0 F_Web_letters (readF 1)) (nilA)))) [some (.par (diceD a2 b c2)), some (.imm (webD w)), some (.imm (.lst ((ones (s1.take w.ls.length)).map .str))), none, none, none] (.lst ((ones w.ls).map .str)) _ := e_fresh (n_bi (a_one (e_ls rfl)) (list_str (by omega)))
      obtain ⟨ys2, a3, c3, e3, hy2⟩ := e_mixed rfl el2 (by simp; omega)
      obtain ⟨s2, rfl, hs2⟩ := perm_ones hy2
      exact ⟨a3, c3, s2, hs2.symm.nodup hw.nd, fun x hx => hw.low x (hs2.mem_iff.mp hx), hs2.length_eq, s_if_t t2 (s_set e3)⟩
  obtain ⟨a3, c3, s, hnd, hlow, hlen, st2⟩ := st2
  obtain ⟨ok, iso⟩ := image_ok hw hnd hlow hlen
  refine ⟨a3, c3, _, s, ?_, ok, fOf w.ls s, (map_fOf hw.nd hlen.symm).symm, iso⟩
  have st3 : Sv (setS 3 (dictF (dzipN (consA (propF 0 F_Web_letters (readF 1)) (consA (readF 2) (nilA)))))) [some (.par (diceD a3 b c3)), some (.imm (webD w)), some (.imm (.lst ((ones s).map .str))), none, none, none] [some (.par (diceD a3 b c3)), some (.imm (webD w)), some (.imm (.lst ((ones s).map .str))), some (.imm (nameD w.ls (fOf w.ls s))), none, none] :=
    s_set (e_dict (n_name (e_ls rfl) (e_read rfl) rfl hw.nd hlen.symm (by omega)))
  have st4 := s_set (n := 4) (e_fresh (n_pairs (δ := [some (.par (diceD a3 b c3)), some (.imm (webD w)), some (.imm (.lst ((ones s).map .str))), some (.imm (nameD w.ls (fOf w.ls s))), none, none]) (gi := walkF (propF 0 F_Web_conflicts (readF 1))) hw rfl (.inl rfl) (i_walk (e_cs rfl) rfl)))
  simp only [List.set_cons_zero, List.set_cons_succ] at st4
  have ej := n_joined (δ := [some (.par (diceD a3 b c3)), some (.imm (webD w)), some (.imm (.lst ((ones s).map .str))), some (.imm (nameD w.ls (fOf w.ls s))), some (.imm (.lst (w.cs.map fun p => .lst ((twoS (fOf w.ls s) p).map .str)))), none]) (f := fOf w.ls s) hw rfl (.inl rfl)
  have es : Ev (mtF "str" joinD (cstF (.str [])) (consA (freshF (biN sortedD (consA (readF 2) (nilA)))) (nilA))) [some (.par (diceD a3 b c3)), some (.imm (webD w)), some (.imm (.lst ((ones s).map .str))), some (.imm (nameD w.ls (fOf w.ls s))), some (.imm (.lst (w.cs.map fun p => .lst ((twoS (fOf w.ls s) p).map .str)))), none] (.str (srt s)) _ :=
    e_mt e_cst rfl (a_one (e_fresh (n_bi (a_one (e_read rfl)) (sorted_strs _)))) (join_sorted (by omega))
  have ew := e_web ok (a_two es (e_bi (a_one (e_fresh ej)) (tuple_lst _)))
  unfold F__law_planted
  exact fn_rt (s_seq st1 (s_seq st2 (s_seq st3 (s_seq st4 (s_ret (e_tup (a_two ew (e_mt e_cst rfl (a_one (e_read rfl)) (join_ones (by omega)))) (by unfold lim; simp))))))) rfl
end K03
set_option Elab.async false
set_option linter.all false
set_option maxRecDepth 100000
namespace K03
open PySem DE
theorem notin_strs (p : List Ch) (cs : List (List Ch)) (hp : p.length = 2) : notinD (.str p) (.tup (cs.map .str)) = some (.bl (decide (p ∉ cs))) := by
  unfold notinD
  rw [in_strs p cs hp]
  by_cases h : p ∈ cs <;> simp [h]
theorem prs_two {ls : List Ch} {p : List Ch} (h : p ∈ prs ls) : p.length = 2 := by
  induction ls with
  | nil => simp [prs] at h
  | cons a r ih =>
    simp only [prs, List.mem_append, List.mem_map] at h
    rcases h with ⟨b, _, rfl⟩ | h
    · rfl
    · exact ih h
def looseL (w : Wb) : List (List Ch) := (prs w.ls).filter fun p => decide (p ∉ w.cs)
theorem f_loose {w : Wb} (hw : w.Ok) : F_Web_loose [.imm (webD w)] = .ok (.imm (.tup ((looseL w).map .str)), none) := by
  have hf := hw.few
  have hp : (prs w.ls).length ≤ 100 := by
    have := prs_len w.ls
    have := Nat.mul_le_mul hf hf
    omega
  have e : Nv (compF (walkF (callF F_pairs_of [] (consA (slotF 0 2 (readF 0)) (nilA)))) (.nm 1) (boolF (op2F notinD (readF 1) (slotF 0 1 (readF 0)))) (readF 1) [1]) [some (.imm (webD w)), none] (.lst ((looseL w).map .str)) [some (.imm (webD w)), none] := by
    have := comp_nm (k := 1) (δ := [some (.imm (webD w)), none]) (c := boolF (op2F notinD (readF 1) (slotF 0 1 (readF 0)))) (f := readF 1) (P := fun d => match d with | .str p => decide (p ∉ w.cs) | _ => false) (g := id)
      (i_walk (f := callF F_pairs_of [] (consA (slotF 0 2 (readF 0)) (nilA))) (e_call (a_one (e_slot (d := .str w.ls) (e_read (n := 0) rfl) rfl)) (f_pairs_of (by omega))) rfl) (by unfold lim; simp; omega) (.inl rfl) (fun d hd => by
        obtain ⟨p, hp, rfl⟩ := List.mem_map.mp hd
        exact ⟨t_bool (e_op2 (e_read rfl) (e_slot (d := .tup (w.cs.map .str)) (e_read (n := 0) rfl) rfl) (notin_strs p w.cs (prs_two hp))), fun _ => e_read rfl⟩)
    rw [List.map_id, List.filter_map] at this
    exact this
  unfold F_Web_loose
  exact fn_rt (s_ret (e_bi (a_one (e_fresh e)) (tuple_lst _))) rfl
/-! own slots read -/
theorem e_op2s {o : D → D → Option D} {g : FE} {δ δ2 : Dl} {j : Nat} {d0 d1 b d : D} (h1 : δ[j]? = some (some (.own d0))) (h2 : Ev g δ b δ2) (h3 : δ2[j]? = some (some (.own d1))) (h4 : o d1 b = some d) : Ev (op2F o (readF j) g) δ d δ2 := by
  simp only [Ev] at *
  simp only [op2F, readF, h1, ok_bind, h2, res, h3, S.con, h4, ofO_some, pure_ok]
theorem e_bis {g : List D → Option D} {δ : Dl} {j : Nat} {d0 d : D} (h1 : δ[j]? = some (some (.own d0))) (h2 : g [d0] = some d) : Ev (biF g (consA (readF j) nilA)) δ d δ := by
  simp only [Ev]
  simp only [biF, consA, nilA, readF, h1, ok_bind, pure_ok, resL, res, S.con, h2, ofO_some]
theorem n_bis {g : List D → Option D} {δ : Dl} {j : Nat} {d0 d : D} (h1 : δ[j]? = some (some (.own d0))) (h2 : g [d0] = some d) : Nv (biN g (consA (readF j) nilA)) δ d δ := by
  simp only [Nv]
  simp only [biN, consA, nilA, readF, h1, ok_bind, pure_ok, resL, res, S.con, h2, ofO_some]
theorem ne_nil (l : List (List Ch)) : neD (.lst (l.map .str)) (.lst []) = some (.bl (decide (l ≠ []))) := by
  have h1 : D.flat 60 (.lst (l.map .str)) = true := by simp only [D.flat, flats_str]
  have h2 : D.flat 60 (.lst []) = true := by simp only [D.flat, flats]
  unfold neD
  rw [h1, h2]
  cases l with
  | nil => simp [D.eqb, eqbs]
  | cons a l => simp [D.eqb, eqbs]
theorem erase_map {α β : Type} (g : α → β) : ∀ (l : List α) (k : Nat), (l.map g).eraseIdx k = (l.eraseIdx k).map g
  | [], _ => by simp
  | a :: l, 0 => by simp
  | a :: l, k + 1 => by simp [erase_map g l k]
theorem pop_at {l : List (List Ch)} {k : Nat} (h : k < l.length) : popD (.lst (l.map .str)) [.int (k : Int)] = some (.str l[k], .lst ((l.eraseIdx k).map .str)) := by
  have hx : L2.ixN (l.map D.str).length (k : Int) = some k := by
    unfold L2.ixN
    simp [h]
  simp only [popD, hx, Option.bind_some]
  rw [List.getElem?_eq_getElem (by simpa using h), erase_map]
  simp
theorem f_bent {w : Wb} (hw : w.Ok) (a b c : Int) : ∃ (a' c' : Int) (cs : List (List Ch)), F__law_bent [.par (diceD a b c), .imm (webD w)] = .ok (.imm (webD ⟨w.ls, cs⟩), some (diceD a' b c')) ∧ Wb.Ok ⟨w.ls, cs⟩ := by
  have hf := hw.few
  have hcl := hw.cl
  have hp : (prs w.ls).length ≤ 100 := by
    have := prs_len w.ls
    have := Nat.mul_le_mul hf hf
    omega
  have hll : (looseL w).length ≤ 100 := Nat.le_trans (List.length_filter_le _ _) hp
  have s1 : Sv (par2S 2 3 (ownX (biN listD (consA (propF 0 F_Web_conflicts (readF 1)) (nilA)))) (ownX (biN listD (consA (propF 0 F_Web_loose (readF 1)) (nilA))))) [some (.par (diceD a b c)), some (.imm (webD w)), none, none] [some (.par (diceD a b c)), some (.imm (webD w)), some (.own (.lst (w.cs.map .str))), some (.own (.lst ((looseL w).map .str)))] := by
    have x1 : Nv (biN listD (consA (propF 0 F_Web_conflicts (readF 1)) (nilA))) [some (.par (diceD a b c)), some (.imm (webD w)), none, none] (.lst (w.cs.map .str)) [some (.par (diceD a b c)), some (.imm (webD w)), none, none] := n_bi (a_one (e_cs rfl)) rfl
    have x2 : Nv (biN listD (consA (propF 0 F_Web_loose (readF 1)) (nilA))) [some (.par (diceD a b c)), some (.imm (webD w)), none, none] (.lst ((looseL w).map .str)) [some (.par (diceD a b c)), some (.imm (webD w)), none, none] := n_bi (a_one (e_prop (e_read rfl) (f_loose hw))) rfl
    simp only [Nv] at x1 x2
    simp only [Sv, par2S, xX, ownX, x1, x2, ok_bind, pure_ok, okX, if_true]
    rfl
  -- a pair is taken off
  have s2 : ∃ (a2 c2 : Int) (l : List (List Ch)), l.Sublist w.cs ∧ Sv (ifS (boolF (op2F neD (readF 2) (freshF (lstN nilA)))) (exprS (muF "list" popD (readF 2) (consA (callIF F__law_roll [] (consA (readF 0) (consA (biF lenD (consA (readF 2) (nilA))) (nilA)))) (nilA)))) (nextS))
      [some (.par (diceD a b c)), some (.imm (webD w)), some (.own (.lst (w.cs.map .str))), some (.own (.lst ((looseL w).map .str)))] [some (.par (diceD a2 b c2)), some (.imm (webD w)), some (.own (.lst (l.map .str))), some (.own (.lst ((looseL w).map .str)))] := by
    have t : Tv (boolF (op2F neD (readF 2) (freshF (lstN nilA)))) [some (.par (diceD a b c)), some (.imm (webD w)), some (.own (.lst (w.cs.map .str))), some (.own (.lst ((looseL w).map .str)))] (decide (w.cs ≠ [])) [some (.par (diceD a b c)), some (.imm (webD w)), some (.own (.lst (w.cs.map .str))), some (.own (.lst ((looseL w).map .str)))] :=
      t_bool (e_op2s rfl (e_fresh (n_lst a_nil (by unfold lim; simp))) rfl (ne_nil _))
    by_cases q : w.cs = []
    · rw [decide_eq_false (by simp [q])] at t
      exact ⟨a, c, w.cs, .refl _, s_if_f t s_next⟩
    · rw [decide_eq_true (by simp [q])] at t
      have hpos : 0 < w.cs.length := List.length_pos_iff.mpr q
      obtain ⟨r, a2, c2, e, h0, h1⟩ := e_roll (f := biF lenD (consA (readF 2) (nilA))) (δ := [some (.par (diceD a b c)), some (.imm (webD w)), some (.own (.lst (w.cs.map .str))), some (.own (.lst ((looseL w).map .str)))]) (t := w.cs.length) rfl (e_bis rfl (by rw [len_lst, List.length_map])) (by omega) (by omega)
      obtain ⟨k, rfl⟩ : ∃ k : Nat, r = (k : Int) := ⟨r.toNat, by omega⟩
      exact ⟨a2, c2, w.cs.eraseIdx k, List.eraseIdx_sublist _ _, s_if_t t (s_expr (e_mu (d0 := .lst (w.cs.map .str)) rfl rfl (a_one e) rfl (pop_at (by omega))))⟩
  obtain ⟨a2, c2, l, hl, s2⟩ := s2
  have hlc : l.length ≤ 100 := Nat.le_trans hl.length_le hcl
  -- one is put to
  have s3 : ∃ (a3 c3 : Int) (m : List (List Ch)) (k3 : List (List Ch)), m.Nodup ∧ (∀ p ∈ m, p ∈ prs w.ls) ∧ Sv (ifS (andT (boolF (op2F neD (readF 3) (freshF (lstN nilA)))) (boolF (op2F gtD (callIF F__law_roll [] (consA (readF 0) (consA (cstF (.int (4))) (nilA)))) (cstF (.int (0)))))) (exprS (muF "list" appD (readF 2) (consA (muF "list" popD (readF 3) (consA (callIF F__law_roll [] (consA (readF 0) (consA (biF lenD (consA (readF 3) (nilA))) (nilA)))) (nilA))) (nilA)))) (nextS))
      [some (.par (diceD a2 b c2)), some (.imm (webD w)), some (.own (.lst (l.map .str))), some (.own (.lst ((looseL w).map .str)))] [some (.par (diceD a3 b c3)), some (.imm (webD w)), some (.own (.lst (m.map .str))), some (.own (.lst (k3.map .str)))] := by
    have hnd : l.Nodup := (cas_nodup hw.cas).sublist hl
    have hsub : ∀ p ∈ l, p ∈ prs w.ls := fun p hp => hw.sub p (hl.subset hp)
    have t : Tv (boolF (op2F neD (readF 3) (freshF (lstN nilA)))) [some (.par (diceD a2 b c2)), some (.imm (webD w)), some (.own (.lst (l.map .str))), some (.own (.lst ((looseL w).map .str)))] (decide (looseL w ≠ [])) [some (.par (diceD a2 b c2)), some (.imm (webD w)), some (.own (.lst (l.map .str))), some (.own (.lst ((looseL w).map .str)))] :=
      t_bool (e_op2s rfl (e_fresh (n_lst a_nil (by unfold lim; simp))) rfl (ne_nil _))
    by_cases q : looseL w = []
    · rw [decide_eq_false (by simp [q])] at t
      exact ⟨a2, c2, l, looseL w, hnd, hsub, s_if_f (t_and_f t) s_next⟩
    · rw [decide_eq_true (by simp [q])] at t
      obtain ⟨r, a3, c3, e, _⟩ := e_roll (f := cstF (.int 4)) (δ := [some (.par (diceD a2 b c2)), some (.imm (webD w)), some (.own (.lst (l.map .str))), some (.own (.lst ((looseL w).map .str)))]) (t := 4) rfl e_cst (by decide) (by decide)
      have t2 : Tv (boolF (op2F gtD (callIF F__law_roll [] (consA (readF 0) (consA (cstF (.int (4))) (nilA)))) (cstF (.int (0))))) _ (decide (0 < r)) _ := t_bool (e_op2 e e_cst rfl)
      by_cases q2 : 0 < r
      · rw [decide_eq_true q2] at t2
        have hpos : 0 < (looseL w).length := List.length_pos_iff.mpr q
        obtain ⟨r2, a4, c4, e4, h0, h1⟩ := e_roll (f := biF lenD (consA (readF 3) (nilA))) (δ := [some (.par (diceD a3 b c3)), some (.imm (webD w)), some (.own (.lst (l.map .str))), some (.own (.lst ((looseL w).map .str)))]) (t := (looseL w).length) rfl (e_bis rfl (by rw [len_lst, List.length_map])) (by omega) (by omega)
        obtain ⟨k, rfl⟩ : ∃ k : Nat, r2 = (k : Int) := ⟨r2.toNat, by omega⟩
        have hk : k < (looseL w).length := by omega
        have hx := List.getElem_mem hk
        have hx2 := List.mem_filter.mp hx
        have hx3 : (looseL w)[k] ∉ w.cs := by simpa using hx2.2
        have e5 := e_mu (ty := "list") (g := popD) (j := 3) (d0 := .lst ((looseL w).map .str)) (by rfl) rfl (a_one e4) (by rfl) (pop_at hk)
        simp only [List.set_cons_zero, List.set_cons_succ] at e5
        refine ⟨a4, c4, l ++ [(looseL w)[k]], (looseL w).eraseIdx k, ?_, fun p hp => ?_, s_if_t (t_and_t t t2) (s_expr (e_mu (ty := "list") (g := appD) (j := 2) (d0 := .lst (l.map .str)) (d1 := .lst (l.map .str)) (ret := .non) (by rfl) rfl (a_one e5) (by rfl) ?_))⟩
        · rw [List.nodup_append]
          refine ⟨hnd, by simp, fun x hx y hy e => ?_⟩
          simp only [List.mem_singleton] at hy
          subst hy
          subst e
          exact hx3 (hl.subset hx)
        · rcases List.mem_append.mp hp with hp | hp
          · exact hsub p hp
          · simp only [List.mem_singleton] at hp
            rw [hp]
            exact hx2.1
        · simp only [appD, List.length_map]
          rw [if_pos (by omega), List.map_append]
          rfl
      · rw [decide_eq_false q2] at t2
        exact ⟨a3, c3, l, looseL w, hnd, hsub, s_if_f (t_and_t t t2) s_next⟩
  obtain ⟨a3, c3, m, k3, hm1, hm2, s3⟩ := s3
  have ok : Wb.Ok ⟨w.ls, sortS m⟩ := ⟨hw.asc, hw.low, hw.few, sortS_asc hm1, fun p hp => hm2 p ((sortS_perm m).mem_iff.mp hp)⟩
  refine ⟨a3, c3, sortS m, ?_, ok⟩
  unfold F__law_bent
  exact fn_rt (s_seq s1 (s_seq s2 (s_seq s3 (s_ret (e_web ok (a_two (e_ls (w := w) rfl) (e_bi (a_one (e_fresh (n_bis rfl (sorted_strs _)))) (tuple_lst _)))))))) rfl
end K03
set_option Elab.async false
set_option linter.all false
set_option maxRecDepth 100000
namespace K03
open PySem DE
/-! ### the search, walked -/
theorem row_len (w : Wb) (x : Ch) : (row w x).length ≤ w.ls.length := List.length_filter_le _ _
theorem close_get {w : Wb} (hw : w.Ok) {x : Ch} (hx : x ∈ w.ls) : ixD (closeD w) (.str [x]) = some (.str (row w x)) := by
  simp only [closeD, ixD]
  exact dkGet_map (key := fun x => DK.s [x]) (g := fun x => D.str (row w x)) hx (name_nd hw.nd) fun y _ e => key_inj y x e
theorem ne_int (i j : Int) : neD (.int i) (.int j) = some (.bl (!(i == j))) := rfl
theorem eq_int (i j : Int) : eqD (.int i) (.int j) = some (.bl (i == j)) := rfl
theorem eq_bl (i j : Bool) : eqD (.bl i) (.bl j) = some (.bl (i == j)) := rfl
theorem int_beq (a b : Nat) : ((a : Int) == (b : Int)) = (a == b) := by
  rw [Bool.eq_iff_iff, beq_iff_eq, beq_iff_eq]
  constructor <;> (intro h; omega)
theorem pair_items (ls s : List Ch) : pairsD (((ones ls).map D.str).zip ((ones s).map .str)) = (ls.zip s).map fun p => .tup [.str [p.1], .str [p.2]] := by
  rw [ones, ones, List.map_map, List.map_map, List.zip_map, pairsD, List.map_map]
  rfl
theorem f_can {w v : Wb} (hw : w.Ok) (hv : v.Ok) {x y : Ch} (hx : x ∈ w.ls) (hy : y ∈ v.ls) (s : List Ch) : F_can_become [.imm (webD w), .imm (webD v), .imm (.str [x]), .imm (.str [y]), .imm (.str s)] = .ok (.imm (.bl (can w v x y s)), none) := by
  have hwf := hw.few
  have hvf := hv.few
  let δ : Dl := [some (.imm (webD w)), some (.imm (webD v)), some (.imm (.str [x])), some (.imm (.str [y])), some (.imm (.str s)), none, none, none]
  have c1 : ∀ δ : Dl, δ[0]? = some (some (.imm (webD w))) → δ[2]? = some (some (.imm (.str [x]))) → Ev (op2F ixD (slotF 0 0 (readF 0)) (readF 2)) δ (.str (row w x)) δ := fun δ h1 h2 => e_op2 (e_slot (d := closeD w) (e_read h1) rfl) (e_read h2) (close_get hw hx)
  have c2 : ∀ δ : Dl, δ[1]? = some (some (.imm (webD v))) → δ[3]? = some (some (.imm (.str [y]))) → Ev (op2F ixD (slotF 0 0 (readF 1)) (readF 3)) δ (.str (row v y)) δ := fun δ h1 h2 => e_op2 (e_slot (d := closeD v) (e_read h1) rfl) (e_read h2) (close_get hv hy)
  have r1 := row_len w x
  have r2 := row_len v y
  have t : Tv (boolF (op2F neD (biF lenD (consA (op2F ixD (slotF 0 0 (readF 0)) (readF 2)) (nilA))) (biF lenD (consA (op2F ixD (slotF 0 0 (readF 1)) (readF 3)) (nilA))))) δ (!((row w x).length == (row v y).length)) δ := by
    rw [← int_beq]
    exact t_bool (e_op2 (e_bi (a_one (c1 δ rfl rfl)) (len_str (by omega))) (e_bi (a_one (c2 δ rfl rfl)) (len_str (by omega))) (ne_int _ _))
  unfold F_can_become
  cases hq : (row w x).length == (row v y).length with
  | false =>
    rw [hq] at t
    have : can w v x y s = false := by simp [can, hq]
    rw [this]
    exact fn_rt (s_rt (s_if_t t (s_ret e_cst))) rfl
  | true =>
    rw [hq] at t
    have hc : can w v x y s = (w.ls.zip s).all fun p => decide (p.1 ∈ row w x) == decide (p.2 ∈ row v y) := by simp [can, hq]
    refine fn_rt (δ' := δ) (s_seq (s_if_f t s_next) ?_) rfl
    have hz : zip2F (consA (slotF 0 2 (readF 0)) (consA (readF 4) (nilA))) δ = .ok ((w.ls.zip s).map fun p => .tup [.str [p.1], .str [p.2]], δ) := by
      have e1 : Ev (slotF 0 2 (readF 0)) δ (.str w.ls) δ := e_slot (e_read rfl) rfl
      have e2 : Ev (readF 4) δ (.str s) δ := e_read rfl
      simp only [Ev] at e1 e2
      simp only [zip2F, consA, nilA, e1, e2, ok_bind, pure_ok, takeR, items_str, ofO_some, pair_items]
    have hl : lim ((w.ls.zip s).map fun p => D.tup [.str [p.1], .str [p.2]]).length := by
      unfold lim
      simp
      omega
    have hcl : compL (.tp [(.nm 6), (.nm 7)]) yesT (op2F eqD (op2F inD (readF 6) (op2F ixD (slotF 0 0 (readF 0)) (readF 2))) (op2F inD (readF 7) (op2F ixD (slotF 0 0 (readF 1)) (readF 3)))) [6, 7] ((w.ls.zip s).map fun p => .tup [.str [p.1], .str [p.2]]) δ =
        .ok ((w.ls.zip s).map fun p => .bl (decide (p.1 ∈ row w x) == decide (p.2 ∈ row v y)), δ) := by
      have := compL_pure (t := .tp [(.nm 6), (.nm 7)]) (c := yesT) (f := op2F eqD (op2F inD (readF 6) (op2F ixD (slotF 0 0 (readF 0)) (readF 2))) (op2F inD (readF 7) (op2F ixD (slotF 0 0 (readF 1)) (readF 3)))) (vs := [6, 7]) (δ0 := δ) (P := fun _ => true)
        (g := fun d => match d with | .tup [.str [a], .str [b]] => .bl (decide (a ∈ row w x) == decide (b ∈ row v y)) | _ => .non) (ds := (w.ls.zip s).map fun p => .tup [.str [p.1], .str [p.2]]) (by
          intro d hd
          obtain ⟨p, hp, rfl⟩ := List.mem_map.mp hd
          refine ⟨[some (.imm (webD w)), some (.imm (webD v)), some (.imm (.str [x])), some (.imm (.str [y])), some (.imm (.str s)), none, some (.imm (.str [p.1])), some (.imm (.str [p.2]))], rfl, rfl, fun _ => ?_, rfl⟩
          exact e_op2 (e_op2 (e_read rfl) (c1 _ rfl rfl) rfl) (e_op2 (e_read rfl) (c2 _ rfl rfl) rfl) (eq_bl _ _))
      rw [List.filter_eq_self.mpr fun _ _ => rfl, List.map_map] at this
      exact this
    have hw6 : wipeD [6, 7] (δ.set 5 none) = .ok δ := rfl
    have hb6 : backD (δ.set 5 none) [6, 7] δ = δ := rfl
    have hfr : freeAt δ 5 = true := rfl
    simp only [zipAllS, hz, ok_bind, hfr, if_true, hl, hw6, hcl, all_bls, ofO_some, hb6, pure_ok, hc]
def optD : Option (List Ch) → D
  | some t => .str t
  | none => .non
def srch (Frec : FnSem) : FS := ifS (andT (boolF (op2F notinD (readF 4) (readF 2))) (truthF (callF F_can_become [] (consA (readF 0) (consA (readF 1) (consA (readF 3) (consA (readF 4) (consA (readF 2) (nilA))))))))) (seqS (setS 5 (callF Frec [] (consA (readF 0) (consA (readF 1) (consA (op2F addD (readF 2) (readF 4)) (nilA)))))) (ifS (isNT false (readF 5)) (retS (readF 5)) (nextS))) (nextS)
theorem srch_loop {w v : Wb} (hw : w.Ok) (hv : v.Ok) {x : Ch} (hx : x ∈ w.ls) {s : List Ch} (hs : s.length ≤ 20) {Frec : FnSem} {G : List Ch → Option (List Ch)} (hF : ∀ y, Frec [.imm (webD w), .imm (webD v), .imm (.str (s ++ [y]))] = .ok (.imm (optD (G (s ++ [y]))), none)) :
    ∀ (suf : List Ch), (∀ y ∈ suf, y ∈ v.ls) → ∀ (k4 k5 : Option S), free1 k4 → free1 k5 → ∃ m4 m5, forL (.nm 4) (srch Frec) ((ones suf).map .str) [some (.imm (webD w)), some (.imm (webD v)), some (.imm (.str s)), some (.imm (.str [x])), k4, k5] =
      .ok (match suf.findSome? fun y => if !decide (y ∈ s) && can w v x y s then G (s ++ [y]) else none with | some t => .rt (.imm (.str t)) | none => .nx, [some (.imm (webD w)), some (.imm (webD v)), some (.imm (.str s)), some (.imm (.str [x])), m4, m5])
  | [], _, k4, k5, _, _ => ⟨k4, k5, rfl⟩
  | y :: r, hsub, k4, k5, hk4, hk5 => by
    have hy := hsub y List.mem_cons_self
    let δ : Dl := [some (.imm (webD w)), some (.imm (webD v)), some (.imm (.str s)), some (.imm (.str [x])), some (.imm (.str [y])), k5]
    have st : setTg (.nm 4) (.str [y]) [some (.imm (webD w)), some (.imm (webD v)), some (.imm (.str s)), some (.imm (.str [x])), k4, k5] = .ok δ := by
      rcases hk4 with rfl | ⟨z, rfl⟩ <;> rfl
    have t1 : Tv (boolF (op2F notinD (readF 4) (readF 2))) δ (!decide (y ∈ s)) δ := t_bool (e_op2 (e_read rfl) (e_read rfl) rfl)
    have t2 : Tv (truthF (callF F_can_become [] (consA (readF 0) (consA (readF 1) (consA (readF 3) (consA (readF 4) (consA (readF 2) (nilA)))))))) δ (can w v x y s) δ :=
      t_truth (e_call (a_cons (e_read rfl) (a_cons (e_read rfl) (a_three (e_read rfl) (e_read rfl) (e_read rfl)))) (f_can hw hv hx hy s)) rfl
    have t3 : Tv (andT (boolF (op2F notinD (readF 4) (readF 2))) (truthF (callF F_can_become [] (consA (readF 0) (consA (readF 1) (consA (readF 3) (consA (readF 4) (consA (readF 2) (nilA))))))))) δ (!decide (y ∈ s) && can w v x y s) δ := by
      cases q : !decide (y ∈ s) with
      | true =>
        rw [q] at t1
        exact t_and_t t1 t2
      | false =>
        rw [q] at t1
        exact t_and_f t1
    simp only [ones, List.map_cons, List.findSome?_cons]
    cases q : !decide (y ∈ s) && can w v x y s with
    | false =>
      rw [q] at t3
      obtain ⟨m4, m5, ih⟩ := srch_loop hw hv hx hs hF r (fun z hz => hsub z (List.mem_cons_of_mem _ hz)) (some (.imm (.str [y]))) k5 (.inr ⟨_, rfl⟩) hk5
      refine ⟨m4, m5, ?_⟩
      have bd : srch Frec δ = .ok (.nx, δ) := s_if_f t3 s_next
      unfold forL
      rw [st, ok_bind, bd, ok_bind]
      simp only [Bool.false_eq_true, if_false]
      exact ih
    | true =>
      rw [q] at t3
      have e5 : Ev (callF Frec [] (consA (readF 0) (consA (readF 1) (consA (op2F addD (readF 2) (readF 4)) (nilA))))) δ (optD (G (s ++ [y]))) δ :=
        e_call (a_three (e_read rfl) (e_read rfl) (e_op2 (d := .str (s ++ [y])) (e_read rfl) (e_read rfl) (by
          simp only [addD]
          rw [if_pos (by unfold lim; simp; omega)]))) (hF y)
      have s5 : Sv (setS 5 (callF Frec [] (consA (readF 0) (consA (readF 1) (consA (op2F addD (readF 2) (readF 4)) (nilA)))))) δ [some (.imm (webD w)), some (.imm (webD v)), some (.imm (.str s)), some (.imm (.str [x])), some (.imm (.str [y])), some (.imm (optD (G (s ++ [y]))))] :=
        s_set e5 (by rcases hk5 with rfl | ⟨z, rfl⟩ <;> rfl)
      simp only [if_true]
      cases g : G (s ++ [y]) with
      | some t =>
        rw [g] at s5
        refine ⟨some (.imm (.str [y])), some (.imm (.str t)), ?_⟩
        have bd : srch Frec δ = .ok (.rt (.imm (.str t)), [some (.imm (webD w)), some (.imm (webD v)), some (.imm (.str s)), some (.imm (.str [x])), some (.imm (.str [y])), some (.imm (.str t))]) :=
          s_if_t t3 (s_seq s5 (s_if_t (t_isN (d := .str t) (e_read rfl)) (s_ret (e_read rfl))))
        unfold forL
        rw [st, ok_bind, bd, ok_bind]
      | none =>
        rw [g] at s5
        obtain ⟨m4, m5, ih⟩ := srch_loop hw hv hx hs hF r (fun z hz => hsub z (List.mem_cons_of_mem _ hz)) (some (.imm (.str [y]))) (some (.imm .non)) (.inr ⟨_, rfl⟩) (.inr ⟨_, rfl⟩)
        refine ⟨m4, m5, ?_⟩
        have bd : srch Frec δ = .ok (.nx, [some (.imm (webD w)), some (.imm (webD v)), some (.imm (.str s)), some (.imm (.str [x])), some (.imm (.str [y])), some (.imm .non)]) :=
          s_if_t t3 (s_seq s5 (s_if_f (t_isN (d := .non) (e_read rfl)) s_next))
        unfold forL
        rw [st, ok_bind, bd, ok_bind]
        exact ih
theorem f_behind {w v : Wb} (hw : w.Ok) (hv : v.Ok) : ∀ (k : Nat) (s : List Ch), s.length ≤ w.ls.length → w.ls.length - s.length < k → F_renamed_behind k [.imm (webD w), .imm (webD v), .imm (.str s)] = .ok (.imm (optD (dfs w v k s)), none)
  | 0, s, _, h => by omega
  | k + 1, s, hl, hk => by
    have hwf := hw.few
    have hvf := hv.few
    let δ : Dl := [some (.imm (webD w)), some (.imm (webD v)), some (.imm (.str s)), none, none, none]
    have els : ∀ {δ : Dl}, δ[0]? = some (some (.imm (webD w))) → Ev (slotF 0 2 (readF 0)) δ (.str w.ls) δ := fun h => e_slot (e_read h) rfl
    have t : Tv (boolF (op2F eqD (biF lenD (consA (readF 2) (nilA))) (biF lenD (consA (slotF 0 2 (readF 0)) (nilA))))) δ (s.length == w.ls.length) δ := by
      rw [← int_beq]
      exact t_bool (e_op2 (e_bi (a_one (e_read rfl)) (len_str (by omega))) (e_bi (a_one (els rfl)) (len_str (by omega))) (eq_int _ _))
    unfold F_renamed_behind
    by_cases q : s.length = w.ls.length
    · rw [beq_iff_eq.mpr q] at t
      have : dfs w v (k + 1) s = some s := by simp only [dfs, q, if_true]
      rw [this]
      exact fn_rt (s_rt (s_if_t t (s_ret (e_read rfl)))) rfl
    · rw [beq_eq_false_iff_ne.mpr q] at t
      have e : dfs w v (k + 1) s = v.ls.findSome? fun y => if !decide (y ∈ s) && can w v (w.ls[s.length]?.getD 0) y s then dfs w v k (s ++ [y]) else none := by simp only [dfs, q, if_false]
      have hlt : s.length < w.ls.length := by omega
      have hx : w.ls[s.length]?.getD 0 ∈ w.ls := by
        rw [List.getElem?_eq_getElem hlt, Option.getD_some]
        exact List.getElem_mem hlt
      have s3 : Sv (setS 3 (op2F ixD (slotF 0 2 (readF 0)) (biF lenD (consA (readF 2) (nilA))))) δ [some (.imm (webD w)), some (.imm (webD v)), some (.imm (.str s)), some (.imm (.str [w.ls[s.length]?.getD 0])), none, none] := by
        refine s_set (e_op2 (els rfl) (e_bi (a_one (e_read rfl)) (len_str (by omega))) ?_)
        simp only [ixD]
        rw [if_pos (by unfold lim; omega)]
        have hxn : L2.ixN w.ls.length (s.length : Int) = some s.length := by
          unfold L2.ixN
          simp [hlt]
        simp only [L2.atI, hxn, Option.bind_some, List.getElem?_eq_getElem hlt, Option.map_some, Option.getD_some]
      obtain ⟨m4, m5, hloop⟩ := srch_loop hw hv hx (s := s) (by omega) (Frec := F_renamed_behind k) (G := dfs w v k) (fun y => f_behind hw hv k (s ++ [y]) (by simp; omega) (by simp; omega)) v.ls (fun _ h => h) none none (.inl rfl) (.inl rfl)
      rw [← e] at hloop
      have hfor : forF (walkF (slotF 0 2 (readF 1))) (.nm 4) (srch (F_renamed_behind k)) [some (.imm (webD w)), some (.imm (webD v)), some (.imm (.str s)), some (.imm (.str [w.ls[s.length]?.getD 0])), none, none] = _ := s_for (i_walk (e_slot (e_read rfl) rfl) (items_str v.ls)) hloop
      cases hd : dfs w v (k + 1) s with
      | some u =>
        rw [hd] at hfor
        exact fn_rt (s_seq (s_if_f t s_next) (s_seq s3 (s_rt hfor))) rfl
      | none =>
        rw [hd] at hfor
        exact fn_rt (s_seq (s_if_f t s_next) (s_seq s3 (s_seq hfor (s_ret e_cst)))) rfl
end K03
set_option Elab.async false
set_option linter.all false
set_option maxRecDepth 100000
namespace K03
open PySem DE
/-! ### renaming -/
def tellD (w v : Wb) : D := match tell w v with
  | some t => nameD w.ls (fOf w.ls t)
  | none => .non
theorem isi_web : isiTab [("NoneType", false), ("bool", false), ("int", false), ("str", false), ("tuple", false), ("list", false), ("dict", false)] [(0, true)] (.cl 0) = some true := rfl
theorem f_require (w : Wb) : F_require_web [.imm (webD w)] = .ok (.imm .non, none) := by
  unfold F_require_web
  exact fn_nx (s_if_f (t_not (k := true) (t_truth (e_isi (e_read rfl) rfl isi_web) rfl)) s_next) rfl
theorem len_tup (xs : List D) : lenD [.tup xs] = some (.int xs.length) := rfl
theorem tell_len {w v : Wb} (hw : w.Ok) (hv : v.Ok) {t : List Ch} (h : tell w v = some t) : t.length = w.ls.length := by
  obtain ⟨f, rfl, _⟩ := tell_some hw hv h
  simp
theorem f_renaming {w v : Wb} (hw : w.Ok) (hv : v.Ok) : F_renaming [.imm (webD w), .imm (webD v)] = .ok (.imm (tellD w v), none) := by
  have hwf := hw.few
  have hvf := hv.few
  let δ : Dl := [some (.imm (webD w)), some (.imm (webD v)), none]
  have r0 : Sv (exprS (callF F_require_web [] (consA (readF 0) (nilA)))) δ δ := s_expr (e_call (a_one (e_read rfl)) (f_require w))
  have r1 : Sv (exprS (callF F_require_web [] (consA (readF 1) (nilA)))) δ δ := s_expr (e_call (a_one (e_read rfl)) (f_require v))
  have t1 : Tv (boolF (op2F neD (biF lenD (consA (slotF 0 2 (readF 0)) (nilA))) (biF lenD (consA (slotF 0 2 (readF 1)) (nilA))))) δ (!(w.ls.length == v.ls.length)) δ := by
    rw [← int_beq]
    exact t_bool (e_op2 (e_bi (a_one (e_slot (d := .str w.ls) (e_read (n := 0) rfl) rfl)) (len_str (by omega))) (e_bi (a_one (e_slot (d := .str v.ls) (e_read (n := 1) rfl) rfl)) (len_str (by omega))) (ne_int _ _))
  have t2 : Tv (boolF (op2F neD (biF lenD (consA (slotF 0 1 (readF 0)) (nilA))) (biF lenD (consA (slotF 0 1 (readF 1)) (nilA))))) δ (!(w.cs.length == v.cs.length)) δ := by
    rw [← int_beq]
    exact t_bool (e_op2 (e_bi (a_one (e_slot (d := .tup (w.cs.map .str)) (e_read (n := 0) rfl) rfl)) (by rw [len_tup, List.length_map])) (e_bi (a_one (e_slot (d := .tup (v.cs.map .str)) (e_read (n := 1) rfl) rfl)) (by rw [len_tup, List.length_map])) (ne_int _ _))
  unfold F_renaming
  by_cases q1 : w.ls.length = v.ls.length
  · rw [beq_iff_eq.mpr q1] at t1
    by_cases q2 : w.cs.length = v.cs.length
    · rw [beq_iff_eq.mpr q2] at t2
      have e : tell w v = dfs w v 12 [] := by
        unfold tell
        rw [if_neg (by omega)]
      have s2 : Sv (setS 2 (callF (F_renamed_behind 12) [] (consA (readF 0) (consA (readF 1) (consA (cstF (.str [])) (nilA)))))) δ [some (.imm (webD w)), some (.imm (webD v)), some (.imm (optD (tell w v)))] := by
        rw [e]
        exact s_set (e_call (a_three (e_read rfl) (e_read rfl) e_cst) (f_behind hw hv 12 [] (by simp) (by simp; omega)))
      have hs : ∀ d, Ev (ifF (isNT true (readF 2)) (cstF .non) (dictF (dzipN (consA (slotF 0 2 (readF 0)) (consA (readF 2) (nilA)))))) [some (.imm (webD w)), some (.imm (webD v)), some (.imm (optD (tell w v)))] d [some (.imm (webD w)), some (.imm (webD v)), some (.imm (optD (tell w v)))] →
          fnF 3 (seqS (exprS (callF F_require_web [] (consA (readF 0) (nilA)))) (seqS (exprS (callF F_require_web [] (consA (readF 1) (nilA)))) (seqS (ifS (orT (boolF (op2F neD (biF lenD (consA (slotF 0 2 (readF 0)) (nilA))) (biF lenD (consA (slotF 0 2 (readF 1)) (nilA))))) (boolF (op2F neD (biF lenD (consA (slotF 0 1 (readF 0)) (nilA))) (biF lenD (consA (slotF 0 1 (readF 1)) (nilA)))))) (retS (cstF .non)) (nextS)) (seqS (setS 2 (callF (F_renamed_behind 12) [] (consA (readF 0) (consA (readF 1) (consA (cstF (.str [])) (nilA)))))) (retS (ifF (isNT true (readF 2)) (cstF .non) (dictF (dzipN (consA (slotF 0 2 (readF 0)) (consA (readF 2) (nilA)))))))))))
            [.imm (webD w), .imm (webD v)] = .ok (.imm d, none) := fun d hd =>
        fn_rt (s_seq r0 (s_seq r1 (s_seq (s_if_f (t_or_f t1 t2) s_next) (s_seq s2 (s_ret hd))))) rfl
      refine hs _ ?_
      unfold tellD
      cases ht : tell w v with
      | none => exact e_if_t (t_isN (d := .non) (e_read rfl)) e_cst
      | some t => exact e_if_f (t_isN (d := .str t) (e_read rfl)) (e_dict (n_name (e_slot (e_read rfl) rfl) (e_read rfl) (items_str t) hw.nd (tell_len hw hv ht).symm (by omega)))
    · rw [beq_eq_false_iff_ne.mpr q2] at t2
      have e : tellD w v = .non := by
        unfold tellD tell
        rw [if_pos (.inr q2)]
      rw [e]
      exact fn_rt (s_seq r0 (s_seq r1 (s_rt (s_if_t (t_or_f t1 t2) (s_ret e_cst))))) rfl
  · rw [beq_eq_false_iff_ne.mpr q1] at t1
    have e : tellD w v = .non := by
      unfold tellD tell
      rw [if_pos (.inl q1)]
    rw [e]
    exact fn_rt (s_seq r0 (s_seq r1 (s_rt (s_if_t (t_or_t t1) (s_ret e_cst))))) rfl
/-! ### the law's look: leads -/
theorem eq_str (a b : List Ch) : eqD (.str a) (.str b) = some (.bl (decide (a = b))) := by
  simp only [eqD, D.flat, Bool.and_self, if_true, eqb_str]
  by_cases h : a = b <;> simp [h]
theorem ne_str (a b : List Ch) : neD (.str a) (.str b) = some (.bl (!decide (a = b))) := by
  simp only [neD, D.flat, Bool.and_self, if_true, eqb_str]
  by_cases h : a = b <;> simp [h]
theorem eqbs_str : ∀ (a b : List (List Ch)), eqbs (a.map .str) (b.map .str) = decide (a = b)
  | [], [] => by simp [eqbs]
  | [], b :: r => by simp [eqbs]
  | a :: r, [] => by simp [eqbs]
  | a :: r, b :: q => by
    simp only [List.map_cons, eqbs, eqb_str, eqbs_str r q]
    by_cases h : a = b <;> by_cases h2 : r = q <;> simp [h, h2]
theorem eq_lst (a b : List (List Ch)) : eqD (.lst (a.map .str)) (.lst (b.map .str)) = some (.bl (decide (a = b))) := by
  simp only [eqD, D.flat, flats_str, Bool.and_self, if_true, D.eqb, eqbs_str]
theorem ne_lst (a b : List (List Ch)) : neD (.lst (a.map .str)) (.lst (b.map .str)) = some (.bl (!decide (a = b))) := by
  simp only [neD, D.flat, flats_str, Bool.and_self, if_true, D.eqb, eqbs_str]
theorem eq_tup (a b : List (List Ch)) : eqD (.tup (a.map .str)) (.tup (b.map .str)) = some (.bl (decide (a = b))) := by
  simp only [eqD, D.flat, flats_str, Bool.and_self, if_true, D.eqb, eqbs_str]
theorem sorted_str {s : List Ch} (h : s.length ≤ 1000) : sortedD [.str s] = some (.lst ((sortS (ones s)).map .str)) := by
  simp only [sortedD, walkD, items_str]
  rw [if_pos (by unfold lim; omega)]
  simp only [Option.bind_some, strs_of]
theorem f_leads {w v : Wb} (hw : w.Ok) (hv : v.Ok) {s : List Ch} (hs : s.length ≤ 1000) : F__law_leads [.imm (webD w), .imm (webD v), .imm (.str s)] = .ok (.imm (.bl (leadB w v s)), none) := by
  have hwf := hw.few
  let δ : Dl := [some (.imm (webD w)), some (.imm (webD v)), some (.imm (.str s)), none, none, none]
  have t1 : Tv (boolF (op2F neD (mtF "str" joinD (cstF (.str [])) (consA (freshF (biN sortedD (consA (readF 2) (nilA)))) (nilA))) (propF 0 F_Web_letters (readF 1)))) δ (!decide (srt s = v.ls)) δ :=
    t_bool (e_op2 (e_mt e_cst rfl (a_one (e_fresh (n_bi (a_one (e_read rfl)) (sorted_str hs)))) (join_sorted hs)) (e_ls rfl) (ne_str _ _))
  have t2 : Tv (boolF (op2F neD (biF lenD (consA (readF 2) (nilA))) (biF lenD (consA (propF 0 F_Web_letters (readF 0)) (nilA))))) δ (!(s.length == w.ls.length)) δ := by
    rw [← int_beq]
    exact t_bool (e_op2 (e_bi (a_one (e_read rfl)) (len_str hs)) (e_bi (a_one (e_ls rfl)) (len_str (by omega))) (ne_int _ _))
  unfold F__law_leads
  by_cases q1 : srt s = v.ls
  · rw [decide_eq_true q1] at t1
    by_cases q2 : s.length = w.ls.length
    · rw [beq_iff_eq.mpr q2] at t2
      have e : leadB w v s = decide (sortS (w.cs.map (mp (fOf w.ls s))) = v.cs) := by simp [leadB, q1, q2]
      rw [e]
      have st3 : Sv (setS 3 (dictF (dzipN (consA (propF 0 F_Web_letters (readF 0)) (consA (readF 2) (nilA)))))) δ [some (.imm (webD w)), some (.imm (webD v)), some (.imm (.str s)), some (.imm (nameD w.ls (fOf w.ls s))), none, none] :=
        s_set (e_dict (n_name (e_ls rfl) (e_read rfl) (items_str s) hw.nd q2.symm (by omega)))
      have st4 := s_set (n := 4) (e_fresh (n_pairs (δ := [some (.imm (webD w)), some (.imm (webD v)), some (.imm (.str s)), some (.imm (nameD w.ls (fOf w.ls s))), none, none]) (gi := walkF (propF 0 F_Web_conflicts (readF 0))) hw rfl (.inl rfl) (i_walk (e_cs rfl) rfl)))
      simp only [List.set_cons_zero, List.set_cons_succ] at st4
      have ej := n_joined (δ := [some (.imm (webD w)), some (.imm (webD v)), some (.imm (.str s)), some (.imm (nameD w.ls (fOf w.ls s))), some (.imm (.lst (w.cs.map fun p => .lst ((twoS (fOf w.ls s) p).map .str)))), none]) (f := fOf w.ls s) hw rfl (.inl rfl)
      exact fn_rt (s_seq (s_if_f (t_or_f t1 t2) s_next) (s_seq st3 (s_seq st4 (s_ret (e_op2 (e_fresh ej) (e_fresh (n_bi (a_one (e_cs rfl)) rfl)) (eq_lst _ _)))))) rfl
    · rw [beq_eq_false_iff_ne.mpr q2] at t2
      have e : leadB w v s = false := by simp [leadB, q2]
      rw [e]
      exact fn_rt (s_rt (s_if_t (t_or_f t1 t2) (s_ret e_cst))) rfl
  · rw [decide_eq_false q1] at t1
    have e : leadB w v s = false := by simp [leadB, q1]
    rw [e]
    exact fn_rt (s_rt (s_if_t (t_or_t t1) (s_ret e_cst))) rfl
end K03
set_option Elab.async false
set_option linter.all false
set_option maxRecDepth 100000
namespace K03
open PySem DE
/-! ### a web renamed, equal webs -/
theorem f_contains {w : Wb} {x : Ch} (hx : x ∈ w.ls) (hl : isLow x = true) : F_Web___contains__ [.imm (webD w), .imm (.str [x])] = .ok (.imm (.bl true), none) := by
  have h1 := f_is_letter1 x
  rw [hl] at h1
  unfold F_Web___contains__
  exact fn_rt (s_ret (e_and_t (e_call (a_one (e_read rfl)) h1) (e_op2 (e_read rfl) (e_slot (d := .str w.ls) (e_read (n := 0) rfl) rfl) (by simp only [inD, decide_eq_true hx])))) rfl
theorem f_len {w : Wb} (hw : w.Ok) : F_Web___len__ [.imm (webD w)] = .ok (.imm (.int w.ls.length), none) := by
  have := hw.few
  unfold F_Web___len__
  exact fn_rt (s_ret (e_bi (a_one (e_slot (d := .str w.ls) (e_read (n := 0) rfl) rfl)) (len_str (by omega)))) rfl
theorem f_eq_self (w : Wb) : F_Web___eq__ [.imm (webD w), .imm (webD w)] = .ok (.imm (.bl true), none) := by
  unfold F_Web___eq__
  have h1 := eq_str w.ls w.ls
  have h2 := eq_tup w.cs w.cs
  rw [decide_eq_true rfl] at h1 h2
  exact fn_rt (s_ret (e_and_t (e_isi (e_read rfl) rfl isi_web) (e_and_t (e_op2 (e_slot (d := .str w.ls) (e_read (n := 0) rfl) rfl) (e_slot (d := .str w.ls) (e_read (n := 1) rfl) rfl) h1) (e_op2 (e_slot (d := .tup (w.cs.map .str)) (e_read (n := 0) rfl) rfl) (e_slot (d := .tup (w.cs.map .str)) (e_read (n := 1) rfl) rfl) h2)))) rfl
theorem f_renamed {w v : Wb} {f : Ch → Ch} (hw : w.Ok) (hv : v.Ok) (h : Iso w v f) : F_Web_renamed [.imm (webD w), .imm (nameD w.ls f)] = .ok (.imm (webD v), none) := by
  have hwf := hw.few
  have hvf := hv.few
  have hcl := hw.cl
  let δ : Dl := [some (.imm (webD w)), some (.imm (nameD w.ls f)), none, none, none, none, none]
  have hlow : ∀ x ∈ w.ls, isLow (f x) = true := fun x hx => hv.low _ (h.prm.mem_iff.mp (List.mem_map_of_mem hx))
  -- the keys
  have ek : Nv (compF (keysF (readF 1)) (.nm 4) (yesT) (andF (ownInF 0 F_Web___contains__ false (readF 4) (readF 0)) (callF F_is_letter [] (consA (op2F ixD (readF 1) (readF 4)) (nilA)))) [4]) δ (.lst (((w.ls.map fun x => DK.s [x]).map keyD).map fun _ => .bl true)) δ := by
    refine comp_all (i_keys (ws := w.ls.map fun x => .str [f x]) (e_read rfl)) (by unfold lim; simp; omega) (.inl rfl) ?_
    intro d hd
    rw [List.map_map] at hd
    obtain ⟨x, hx, rfl⟩ := List.mem_map.mp hd
    have h1 := f_is_letter1 (f x)
    rw [hlow x hx] at h1
    exact e_and_t (e_ownIn (k := true) (e_read rfl) (e_read rfl) rfl (f_contains hx (hw.low x hx))) (e_call (a_one (e_op2 (d := .str [f x]) (e_read rfl) (e_read rfl) (name_get hw.nd hx))) h1)
  -- all names
  have s2 : Sv (setS 2 (dictF (dcF (walkF (slotF 0 2 (readF 0))) (.nm 5) (yesT) (readF 5) (getF (readF 1) (readF 5) (readF 5)) [5]))) δ [some (.imm (webD w)), some (.imm (nameD w.ls f)), some (.imm (nameD w.ls f)), none, none, none, none] := by
    have := dc_nm (gi := walkF (slotF 0 2 (readF 0))) (k := 5) (fk := readF 5) (fv := getF (readF 1) (readF 5) (readF 5)) (δ := δ) (kd := id) (key := fun d => match d with | .str z => .s z | _ => .i 0)
      (g := fun d => match d with | .str [x] => .str [f x] | _ => .non) (items := (ones w.ls).map .str) (i_walk (e_slot (d := .str w.ls) (e_read (n := 0) rfl) rfl) (items_str w.ls)) (by simp [lim]; omega) (.inl rfl) (fun d hd => by
        rw [List.map_map] at hd
        obtain ⟨x, hx, rfl⟩ := List.mem_map.mp hd
        exact ⟨e_read rfl, rfl, e_get (ks := w.ls.map fun x => .s [x]) (ws := w.ls.map fun x => .str [f x]) (e_read rfl) (e_read rfl) rfl (e_read rfl) (dkGet_map (key := fun x => DK.s [x]) (g := fun x => D.str [f x]) hx (name_nd hw.nd) fun y _ e => key_inj y x e)⟩) (by
        rw [List.map_map, List.map_map]
        exact nodup_map hw.nd fun x _ y _ e => key_inj x y e)
    simp only [List.map_map, ones] at this
    exact s_set (e_dict this)
  -- the letters
  let δ2 : Dl := [some (.imm (webD w)), some (.imm (nameD w.ls f)), some (.imm (nameD w.ls f)), none, none, none, none]
  have e3 : Nv (compF (walkF (slotF 0 2 (readF 0))) (.nm 5) (yesT) (op2F ixD (readF 2) (readF 5)) [5]) δ2 (.lst ((ones (w.ls.map f)).map .str)) δ2 := by
    have := comp_all (k := 5) (δ := δ2) (f := op2F ixD (readF 2) (readF 5)) (g := fun d => match d with | .str [x] => .str [f x] | _ => .non) (i_walk (f := slotF 0 2 (readF 0)) (e_slot (d := .str w.ls) (e_read (n := 0) rfl) rfl) (items_str w.ls)) (by simp [lim]; omega) (.inl rfl) (fun d hd => by
      rw [List.map_map] at hd
      obtain ⟨x, hx, rfl⟩ := List.mem_map.mp hd
      exact e_op2 (e_read rfl) (e_read rfl) (name_get hw.nd hx))
    simp only [List.map_map, ones] at this ⊢
    exact this
  have hsr : srt (w.ls.map f) = v.ls := (srt_iff hv.asc).mpr h.prm
  have es := e_srt e3 (by simp; omega)
  rw [hsr] at es
  have s3 := s_set (n := 3) es
  simp only [δ2, List.set_cons_zero, List.set_cons_succ] at s3
  let δ3 : Dl := [some (.imm (webD w)), some (.imm (nameD w.ls f)), some (.imm (nameD w.ls f)), some (.imm (.str v.ls)), none, none, none]
  have e6 : Nv (compF (walkF (slotF 0 1 (readF 0))) (.nm 6) (yesT) (callF F_pair_of [] (consA (op2F ixD (readF 2) (op2F ixD (readF 6) (cstF (.int (0))))) (consA (op2F ixD (readF 2) (op2F ixD (readF 6) (cstF (.int (1))))) (nilA)))) [6]) δ3 (.lst ((w.cs.map (mp f)).map .str)) δ3 := by
    have := comp_all (k := 6) (δ := δ3) (f := callF F_pair_of [] (consA (op2F ixD (readF 2) (op2F ixD (readF 6) (cstF (.int (0))))) (consA (op2F ixD (readF 2) (op2F ixD (readF 6) (cstF (.int (1))))) (nilA)))) (g := fun d => match d with | .str p => .str (mp f p) | _ => .non) (i_walk (f := slotF 0 1 (readF 0)) (its := w.cs.map .str) (e_slot (d := .tup (w.cs.map .str)) (e_read (n := 0) rfl) rfl) rfl) (by simp [lim]; omega) (.inl rfl) (fun d hd => by
      obtain ⟨p, hp, rfl⟩ := List.mem_map.mp hd
      obtain ⟨a, b, ha, hb, hl, rfl⟩ := hw.pr hp
      exact e_call (a_two (e_op2 (e_read rfl) (e_op2 (d := .str [a]) (e_read rfl) e_cst rfl) (name_get hw.nd ha)) (e_op2 (e_read rfl) (e_op2 (d := .str [b]) (e_read rfl) e_cst rfl) (name_get hw.nd hb))) (f_pair_of [f a] [f b] (by simp [lim])))
    simp only [List.map_map] at this ⊢
    exact this
  have hcs : sortS (w.cs.map (mp f)) = v.cs := sortS_of ((leads_iff hw hv h.prm).mpr h) hv.cas
  have n6 : Nv (biN sortedD (consA (freshF (compF (walkF (slotF 0 1 (readF 0))) (.nm 6) (yesT) (callF F_pair_of [] (consA (op2F ixD (readF 2) (op2F ixD (readF 6) (cstF (.int (0))))) (consA (op2F ixD (readF 2) (op2F ixD (readF 6) (cstF (.int (1))))) (nilA)))) [6])) (nilA))) δ3 (.lst (v.cs.map .str)) δ3 := by
    rw [← hcs]
    exact n_bi (a_one (e_fresh e6)) (sorted_strs _)
  unfold F_Web_renamed
  exact fn_rt (s_seq (s_if_f (t_or_f (t_not (k := true) (t_truth (e_isi (d := nameD w.ls f) (e_read rfl) rfl (by simp [isiTab, List.lookup])) rfl)) (t_not (k := true) (t_truth (e_bi (a_one (e_fresh ek)) (all_true _)) rfl))) s_next) (s_seq s2 (s_seq s3 (s_seq (s_if_f (t_not (k := true) (t_truth (e_call (a_one (e_read rfl)) (f_asc_str hv.asc (by omega))) rfl)) s_next) (s_ret (e_web hv (a_two (e_read rfl) (e_bi (a_one (e_fresh n6)) (tuple_lst _))))))))) rfl
/-! ### all orders -/
theorem rngL_range : ∀ (n : Nat) (lo : Int), rngL lo n = (List.range n).map fun i : Nat => D.int (lo + (i : Int))
  | 0, _ => rfl
  | n + 1, lo => by
    rw [rngL, rngL_range n, List.range_succ_eq_map, List.map_cons, List.map_map]
    congr 1
    · simp
    · refine List.map_congr_left fun i _ => ?_
      simp only [Function.comp, Nat.succ_eq_add_one]
      congr 1
      omega
abbrev rowD (r : List Ch) : D := .lst ((ones r).map .str)
theorem ord_row {ls : D} {rows : D} {acc : List D} {x : Ch} {r : List Ch} (hr : r.length ≤ 10) (δ : Dl) (hδ : δ = [some (.imm ls), some (.imm rows), some (.imm (.str [x])), some (.own (.lst acc)), some (.imm (rowD r)), none]) :
    Nv (compF (rangeF (consA (op2F addD (biF lenD (consA (readF 4) (nilA))) (cstF (.int (1)))) (nilA))) (.nm 5) (yesT) (op2F addD (op2F addD (freshF (slN (readF 4) (noO) (someO (readF 5)))) (freshF (lstN (consA (readF 2) (nilA))))) (freshF (slN (readF 4) (someO (readF 5)) (noO)))) [5]) δ (.lst ((putIn x r).map rowD)) δ := by
  subst hδ
  have hg : Iv (rangeF (consA (op2F addD (biF lenD (consA (readF 4) (nilA))) (cstF (.int (1)))) (nilA))) [some (.imm ls), some (.imm rows), some (.imm (.str [x])), some (.own (.lst acc)), some (.imm (rowD r)), none] (rngL 0 (r.length + 1)) [some (.imm ls), some (.imm rows), some (.imm (.str [x])), some (.own (.lst acc)), some (.imm (rowD r)), none] :=
    i_range (e_op2 (e_bi (a_one (e_read rfl)) (len_lst _)) e_cst (by simp [addD])) (by omega)
  have := comp_all (k := 5) (f := op2F addD (op2F addD (freshF (slN (readF 4) (noO) (someO (readF 5)))) (freshF (lstN (consA (readF 2) (nilA))))) (freshF (slN (readF 4) (someO (readF 5)) (noO)))) (g := fun d => match d with | .int i => rowD (r.take i.toNat ++ [x] ++ r.drop i.toNat) | _ => .non) hg (by rw [rngL_len]; unfold lim; omega) (.inl rfl) (fun d hd => by
    rw [rngL_range] at hd
    obtain ⟨i, hi, rfl⟩ := List.mem_map.mp hd
    simp only [Int.zero_add, Int.toNat_natCast]
    clear hd
    have n1 := n_sl (δ := [some (.imm ls), some (.imm rows), some (.imm (.str [x])), some (.own (.lst acc)), some (.imm (rowD r)), some (.imm (.int (i : Int)))]) (f := readF 4) (z := (ones r).map .str) (e_read rfl) o_no (o_some (e_read (n := 5) rfl))
    have n2 := n_sl (δ := [some (.imm ls), some (.imm rows), some (.imm (.str [x])), some (.own (.lst acc)), some (.imm (rowD r)), some (.imm (.int (i : Int)))]) (f := readF 4) (z := (ones r).map .str) (e_read rfl) (o_some (e_read (n := 5) rfl)) o_no
    rw [cut_to] at n1
    rw [cut_from] at n2
    refine e_op2 (e_op2 (d := .lst (((ones r).map D.str).take i ++ [.str [x]])) (e_fresh n1) (e_fresh (n_lst (a_one (e_read rfl)) (by unfold lim; simp))) ?_) (e_fresh n2) ?_
    · simp only [addD]
      rw [if_pos (by unfold lim; simp; omega)]
    · simp only [addD]
      rw [if_pos (by unfold lim; simp; omega)]
      simp [rowD, ones, List.map_take, List.map_drop])
  rw [rngL_range, List.map_map] at this
  rw [putIn, List.map_map]
  have e : (List.range (r.length + 1)).map ((fun d => match d with | D.int i => rowD (r.take i.toNat ++ [x] ++ r.drop i.toNat) | _ => D.non) ∘ fun i : Nat => D.int (0 + (i : Int))) = (List.range (r.length + 1)).map (rowD ∘ fun i => r.take i ++ [x] ++ r.drop i) := by
    refine List.map_congr_left fun i _ => ?_
    simp only [Function.comp, Int.zero_add, Int.toNat_natCast]
  rw [← e]
  exact this
theorem ord_in {ls : D} {rows : D} {x : Ch} : ∀ (rs : List (List Ch)) (acc : List (List Ch)) (k4 : Option S), free1 k4 → (∀ r ∈ rs, r.length ≤ 5) → acc.length + rs.length * 6 ≤ 1000 →
    ∃ m4, forL (.nm 4) (exprS (muF "list" extD (readF 3) (consA (freshF (compF (rangeF (consA (op2F addD (biF lenD (consA (readF 4) (nilA))) (cstF (.int (1)))) (nilA))) (.nm 5) (yesT) (op2F addD (op2F addD (freshF (slN (readF 4) (noO) (someO (readF 5)))) (freshF (lstN (consA (readF 2) (nilA))))) (freshF (slN (readF 4) (someO (readF 5)) (noO)))) [5])) (nilA))))
      (rs.map rowD) [some (.imm ls), some (.imm rows), some (.imm (.str [x])), some (.own (.lst (acc.map rowD))), k4, none] = .ok (.nx, [some (.imm ls), some (.imm rows), some (.imm (.str [x])), some (.own (.lst ((acc ++ ordStep rs x).map rowD))), m4, none]) ∧ free1 m4
  | [], acc, k4, hk, _, _ => ⟨k4, by simp [forL, ordStep], hk⟩
  | r :: rs, acc, k4, hk, hr, hn => by
    have h5 := hr r List.mem_cons_self
    have hlen : (putIn x r).length = r.length + 1 := by simp [putIn]
    simp only [List.length_cons] at hn
    obtain ⟨m4, ih, hm⟩ := ord_in (ls := ls) (rows := rows) (x := x) rs (acc ++ putIn x r) (some (.imm (rowD r))) (.inr ⟨_, rfl⟩) (fun q hq => hr q (List.mem_cons_of_mem _ hq)) (by rw [List.length_append, hlen]; omega)
    refine ⟨m4, ?_, hm⟩
    have st : setTg (.nm 4) (rowD r) [some (.imm ls), some (.imm rows), some (.imm (.str [x])), some (.own (.lst (acc.map rowD))), k4, none] = .ok [some (.imm ls), some (.imm rows), some (.imm (.str [x])), some (.own (.lst (acc.map rowD))), some (.imm (rowD r)), none] := by
      rcases hk with rfl | ⟨z, rfl⟩ <;> rfl
    have bd := s_expr (e_mu (ty := "list") (g := extD) (j := 3) (d0 := .lst (acc.map rowD)) (ret := .non) (new := .lst ((acc ++ putIn x r).map rowD)) (by rfl) rfl (a_one (e_fresh (ord_row (acc := acc.map rowD) (ls := ls) (rows := rows) (x := x) (r := r) (by omega) _ rfl))) (by rfl) (by
      simp only [extD, List.length_map]
      rw [if_pos (by unfold lim; omega), List.map_append]))
    simp only [List.map_cons]
    unfold forL
    rw [st, ok_bind, bd, ok_bind]
    simp only [List.set_cons_zero, List.set_cons_succ]
    rw [ih]
    simp only [ordStep, List.flatMap_cons, List.append_assoc]
end K03
set_option Elab.async false
set_option linter.all false
set_option maxRecDepth 100000
namespace K03
open PySem DE
theorem tell_some2 {w v : Wb} (hw : w.Ok) (hv : v.Ok) {t : List Ch} (h : tell w v = some t) : w.ls.map (fOf w.ls t) = t ∧ Iso w v (fOf w.ls t) ∧ ∀ f', Iso w v f' → ¬ w.ls.map f' < t := by
  have hl := tell_len hw hv h
  have e := map_fOf hw.nd hl.symm
  obtain ⟨f, h1, h2, h3⟩ := tell_some hw hv h
  refine ⟨e, ?_, h3⟩
  have q : ∀ x ∈ w.ls, fOf w.ls t x = f x := List.map_inj_left.mp (e.trans h1)
  refine ⟨?_, fun x hx y hy => ?_⟩
  · rw [e, h1]
    exact h2.prm
  · rw [q x hx, q y hy]
    exact h2.adj x hx y hy
abbrev rowsD (rows : List (List Ch)) : D := .lst (rows.map rowD)
def ordB : FS := (seqS (setNS 3 (lstN nilA)) (seqS (forF (walkF (readF 1)) (.nm 4) (exprS (muF "list" extD (readF 3) (consA (freshF (compF (rangeF (consA (op2F addD (biF lenD (consA (readF 4) (nilA))) (cstF (.int (1)))) (nilA))) (.nm 5) (yesT) (op2F addD (op2F addD (freshF (slN (readF 4) (noO) (someO (readF 5)))) (freshF (lstN (consA (readF 2) (nilA))))) (freshF (slN (readF 4) (someO (readF 5)) (noO)))) [5])) (nilA))))) (setS 1 (freshF (biN listD (consA (readF 3) (nilA)))))))
theorem ord_out {ls : D} : ∀ (suf pre : List Ch) (rows : List (List Ch)) (k2 k3 k4 : Option S), free1 k2 → (k3 = none ∨ ∃ d, k3 = some (.own d)) → free1 k4 → rows.length = fct pre.length → (∀ r ∈ rows, r.length = pre.length) → (pre ++ suf).length ≤ 5 →
    ∃ m2 m3 m4, forL (.nm 2) ordB ((ones suf).map .str) [some (.imm ls), some (.imm (rowsD rows)), k2, k3, k4, none] = .ok (.nx, [some (.imm ls), some (.imm (rowsD (suf.foldl ordStep rows))), m2, m3, m4, none])
  | [], pre, rows, k2, k3, k4, _, _, _, _, _, _ => ⟨k2, k3, k4, rfl⟩
  | x :: suf, pre, rows, k2, k3, k4, h2, h3, h4, hn, hl, h5 => by
    have hp : pre.length + (suf.length + 1) ≤ 5 := by simpa using h5
    have hf := fct_le (n := pre.length) (by omega)
    obtain ⟨o1, o2⟩ := ordStep_len (x := x) hl
    obtain ⟨m4, hi, hm4⟩ := ord_in (ls := ls) (rows := rowsD rows) (x := x) rows [] k4 h4 (fun r hr => by rw [hl r hr]; omega) (by simp; omega)
    obtain ⟨m2', m3', m4', ih⟩ := ord_out (ls := ls) suf (pre ++ [x]) (ordStep rows x) (some (.imm (.str [x]))) (some (.own (rowsD (ordStep rows x)))) m4 (.inr ⟨_, rfl⟩) (.inr ⟨_, rfl⟩) hm4 (by rw [o1, hn]; simp [fct, Nat.mul_comm]) (by simpa using o2) (by simpa using h5)
    refine ⟨m2', m3', m4', ?_⟩
    have st : setTg (.nm 2) (.str [x]) [some (.imm ls), some (.imm (rowsD rows)), k2, k3, k4, none] = .ok [some (.imm ls), some (.imm (rowsD rows)), some (.imm (.str [x])), k3, k4, none] := by
      rcases h2 with rfl | ⟨z, rfl⟩ <;> rfl
    have s1 : Sv (setNS 3 (lstN nilA)) [some (.imm ls), some (.imm (rowsD rows)), some (.imm (.str [x])), k3, k4, none] [some (.imm ls), some (.imm (rowsD rows)), some (.imm (.str [x])), some (.own (.lst [])), k4, none] :=
      s_setN (n_lst a_nil (by unfold lim; simp)) (by rcases h3 with rfl | ⟨z, rfl⟩ <;> rfl)
    have s2 : Sv (setS 1 (freshF (biN listD (consA (readF 3) (nilA))))) [some (.imm ls), some (.imm (rowsD rows)), some (.imm (.str [x])), some (.own (rowsD (ordStep rows x))), m4, none] [some (.imm ls), some (.imm (rowsD (ordStep rows x))), some (.imm (.str [x])), some (.own (rowsD (ordStep rows x))), m4, none] :=
      s_set (e_fresh (n_bis (d := rowsD (ordStep rows x)) rfl rfl))
    have bd : ordB [some (.imm ls), some (.imm (rowsD rows)), some (.imm (.str [x])), k3, k4, none] = .ok (.nx, [some (.imm ls), some (.imm (rowsD (ordStep rows x))), some (.imm (.str [x])), some (.own (rowsD (ordStep rows x))), m4, none]) :=
      s_seq s1 (s_seq (s_for (i_walk (d := rowsD rows) (e_read rfl) rfl) hi) s2)
    simp only [ones, List.map_cons, List.foldl_cons]
    unfold forL
    rw [st, ok_bind, bd, ok_bind]
    exact ih
theorem f_orders {ls : List Ch} (h : ls.length ≤ 5) : F__law_orders [.imm (.lst ((ones ls).map .str))] = .ok (.imm (rowsD (ords ls)), none) := by
  obtain ⟨m2, m3, m4, e⟩ := ord_out (ls := .lst ((ones ls).map .str)) ls [] [[]] none none none (.inl rfl) (.inl rfl) (.inl rfl) rfl (by simp) (by simpa using h)
  unfold F__law_orders
  have s1 : Sv (setS 1 (freshF (lstN (consA (freshF (lstN nilA)) (nilA))))) [some (.imm (.lst ((ones ls).map .str))), none, none, none, none, none] [some (.imm (.lst ((ones ls).map .str))), some (.imm (rowsD [[]])), none, none, none, none] :=
    s_set (e_fresh (n_lst (a_one (e_fresh (n_lst a_nil (by unfold lim; simp)))) (by unfold lim; simp)))
  exact fn_rt (s_seq s1 (s_seq (s_for (i_walk (e_read rfl) rfl) e) (s_ret (e_read rfl)))) rfl
theorem f_strings {ls : List Ch} (h : ls.length ≤ 5) : F__law_strings [.imm (.str ls)] = .ok (.imm (.lst ((ords ls).map .str)), none) := by
  obtain ⟨h1, h2⟩ := ords_size ls
  have h3 := fct_le h
  have e : Nv (compF (walkF (callF F__law_orders [] (consA (freshF (biN listD (consA (readF 0) (nilA)))) (nilA)))) (.nm 1) (yesT) (mtF "str" joinD (cstF (.str [])) (consA (readF 1) (nilA))) [1]) [some (.imm (.str ls)), none] (.lst ((ords ls).map .str)) [some (.imm (.str ls)), none] := by
    have := comp_all (k := 1) (δ := [some (.imm (.str ls)), none]) (gi := walkF (callF F__law_orders [] (consA (freshF (biN listD (consA (readF 0) (nilA)))) (nilA)))) (f := mtF "str" joinD (cstF (.str [])) (consA (readF 1) (nilA)))
      (g := fun d => match joinD (.str []) [d] with | some z => z | none => .non) (items := (ords ls).map rowD) (i_walk (e_call (a_one (e_fresh (n_bi (a_one (e_read rfl)) (list_str (by omega))))) (f_orders h)) rfl) (by unfold lim; simp; omega) (.inl rfl) (fun d hd => by
        obtain ⟨r, hr, rfl⟩ := List.mem_map.mp hd
        have hj := join_ones (s := r) (by rw [h2 r hr]; omega)
        simp only [rowD, hj]
        exact e_mt e_cst rfl (a_one (e_read rfl)) hj)
    rw [List.map_map] at this
    have e2 : (ords ls).map ((fun d => match joinD (.str []) [d] with | some z => z | none => .non) ∘ rowD) = (ords ls).map D.str := by
      refine List.map_congr_left fun r hr => ?_
      have hj := join_ones (s := r) (by rw [h2 r hr]; omega)
      simp only [Function.comp, rowD, hj]
    rwa [e2] at this
  unfold F__law_strings
  exact fn_rt (s_ret (e_fresh e)) rfl
theorem min_of {l : List (List Ch)} {t : List Ch} (ht : t ∈ l) (hm : ∀ y ∈ l, ¬ y < t) : minLD [.lst (l.map .str)] = some (.str t) := by
  simp only [minLD, strs_of]
  have hp := sortS_perm l
  cases q : sortS l with
  | nil =>
    rw [q] at hp
    exact absurd (hp.mem_iff.mpr ht) (by simp)
  | cons a r =>
    have : t = a := head_min leS_t leS_l leS_a (l := l) (m := a) (show (isort leS l).head? = some a from by
      rw [show isort leS l = sortS l from rfl, q]
      rfl) ht fun y hy => leS_iff.mpr (hm y hy)
    rw [this]
    rfl
theorem p63 : (2 : Int) ^ 63 = 9223372036854775808 := by decide
theorem small_ok {i : Int} (h : 0 ≤ i ∧ i < 2 ^ 63) : smallNat (.int i) = some (.int i) := if_pos h
theorem e_len {δ : Dl} {k : Nat} {w : Wb} (hw : w.Ok) (h : δ[k]? = some (some (.imm (webD w)))) : Ev (ownF (isC 0) F_Web___len__ smallNat (consA (readF k) nilA)) δ (.int w.ls.length) δ := by
  have := hw.few
  exact e_own1 (e_read h) rfl (f_len hw) (small_ok (by rw [p63]; omega))
theorem list_name (ls : List Ch) (f : Ch → Ch) : listD [nameD ls f] = some (.lst ((ones ls).map .str)) := by
  simp only [listD, nameD, List.map_map, ones]
  rfl
theorem f_told {w v : Wb} (hw : w.Ok) (hv : v.Ok) (h5 : w.ls.length ≤ 5 → v.ls.length ≤ 5) (pl : Option (List Ch)) (hp : ∀ s, pl = some s → ∃ f, s = w.ls.map f ∧ Iso w v f) :
    F__law_told_right [.imm (webD w), .imm (webD v), .imm (optD pl)] = .ok (.imm (.bl true), none) := by
  have hwf := hw.few
  have hvf := hv.few
  have st3 : Sv (setS 3 (callF F_renaming [] (consA (readF 0) (consA (readF 1) (nilA))))) [some (.imm (webD w)), some (.imm (webD v)), some (.imm (optD pl)), none, none, none, none] [some (.imm (webD w)), some (.imm (webD v)), some (.imm (optD pl)), some (.imm (tellD w v)), none, none, none] :=
    s_set (e_call (a_two (e_read rfl) (e_read rfl)) (f_renaming hw hv))
  unfold F__law_told_right
  cases ht : tell w v with
  | none =>
    have hno := tell_none hw hv ht
    have hpl : pl = none := by
      cases pl with
      | none => rfl
      | some s =>
        obtain ⟨f, _, hf⟩ := hp s rfl
        exact (hno f hf).elim
    subst hpl
    have etd : tellD w v = .non := by unfold tellD; rw [ht]
    rw [etd] at st3
    let δ : Dl := [some (.imm (webD w)), some (.imm (webD v)), some (.imm .non), some (.imm .non), none, none, none]
    have tg : Ev (op2F gtD (ownF (isC 0) F_Web___len__ smallNat (consA (readF 0) nilA)) (cstF (.int (5)))) δ (.bl (decide ((5 : Int) < w.ls.length))) δ := e_op2 (e_len hw rfl) e_cst rfl
    refine fn_rt (s_seq st3 (s_rt (s_if_t (t_isN (d := .non) (e_read rfl)) (s_seq (s_if_f (t_isN (d := .non) (e_read rfl)) s_next) (s_ret (δ1 := δ) ?_))))) rfl
    by_cases q : (5 : Int) < w.ls.length
    · rw [decide_eq_true q] at tg
      exact e_or_t tg
    · rw [decide_eq_false q] at tg
      have hv5 := h5 (by omega)
      obtain ⟨o1, o2⟩ := ords_size v.ls
      have o3 := fct_le hv5
      refine e_or_f tg (e_not (k := false) ?_)
      have e : Nv (compF (walkF (callF F__law_strings [] (consA (propF 0 F_Web_letters (readF 1)) (nilA)))) (.nm 5) (yesT) (callF F__law_leads [] (consA (readF 0) (consA (readF 1) (consA (readF 5) (nilA))))) [5]) δ (.lst (((ords v.ls).map D.str).map fun _ => .bl false)) δ := by
        refine comp_all (i_walk (e_call (a_one (e_ls rfl)) (f_strings hv5)) rfl) (by unfold lim; simp; omega) (.inl rfl) (fun d hd => ?_)
        obtain ⟨s, hs, rfl⟩ := List.mem_map.mp hd
        have hl := f_leads hw hv (s := s) (by rw [o2 s hs]; omega)
        have hb : leadB w v s = false := by
          cases hb : leadB w v s with
          | false => rfl
          | true =>
            obtain ⟨f, _, hf⟩ := (leadB_iff hw hv s).mp hb
            exact (hno f hf).elim
        rw [hb] at hl
        exact e_call (a_three (e_read rfl) (e_read rfl) (e_read rfl)) hl
      have ha := any_bls ((ords v.ls).map D.str) (fun _ => false)
      have hz : (((ords v.ls).map D.str).any fun _ => false) = false := by
        rw [List.any_eq_false]
        intro x _
        simp
      rw [hz] at ha
      exact e_bi (a_one (e_fresh e)) ha
  | some t =>
    obtain ⟨e1, e2, e3⟩ := tell_some2 hw hv ht
    have htl := tell_len hw hv ht
    have etd : tellD w v = nameD w.ls (fOf w.ls t) := by unfold tellD; rw [ht]
    rw [etd] at st3
    let δ : Dl := [some (.imm (webD w)), some (.imm (webD v)), some (.imm (optD pl)), some (.imm (nameD w.ls (fOf w.ls t))), none, none, none]
    have hne := ne_lst (ones w.ls) (ones w.ls)
    rw [decide_eq_true rfl] at hne
    have t1 : Tv (orT (notT (truthF (isiF (isiTab [("NoneType", false), ("bool", false), ("int", false), ("str", false), ("tuple", false), ("list", false), ("dict", true)] []) (readF 3)))) (boolF (op2F neD (freshF (biN listD (consA (readF 3) (nilA)))) (freshF (biN listD (consA (propF 0 F_Web_letters (readF 0)) (nilA))))))) δ false δ :=
      t_or_f (t_not (k := true) (t_truth (e_isi (d := nameD w.ls (fOf w.ls t)) (e_read rfl) rfl (by simp [isiTab, List.lookup])) rfl)) (t_bool (e_op2 (e_fresh (n_bi (a_one (e_read rfl)) (list_name _ _))) (e_fresh (n_bi (a_one (e_ls rfl)) (list_str (by omega)))) hne))
    have ec : Nv (compF (walkF (propF 0 F_Web_letters (readF 0))) (.nm 6) (yesT) (op2F ixD (readF 3) (readF 6)) [6]) δ (.lst ((ones t).map .str)) δ := by
      have := comp_all (k := 6) (δ := δ) (f := op2F ixD (readF 3) (readF 6)) (g := fun d => match d with | .str [x] => .str [fOf w.ls t x] | _ => .non) (i_walk (f := propF 0 F_Web_letters (readF 0)) (e_ls (w := w) rfl) (items_str w.ls)) (by simp [lim]; omega) (.inl rfl) (fun d hd => by
        rw [List.map_map] at hd
        obtain ⟨x, hx, rfl⟩ := List.mem_map.mp hd
        exact e_op2 (e_read rfl) (e_read rfl) (name_get hw.nd hx))
      have e4 : ((ones w.ls).map D.str).map (fun d => match d with | .str [x] => D.str [fOf w.ls t x] | _ => .non) = (ones t).map .str := by
        conv => rhs; rw [← e1]
        simp only [ones, List.map_map]
        rfl
      rwa [e4] at this
    have s4 : Sv (setS 4 (mtF "str" joinD (cstF (.str [])) (consA (freshF (compF (walkF (propF 0 F_Web_letters (readF 0))) (.nm 6) (yesT) (op2F ixD (readF 3) (readF 6)) [6])) (nilA)))) δ [some (.imm (webD w)), some (.imm (webD v)), some (.imm (optD pl)), some (.imm (nameD w.ls (fOf w.ls t))), some (.imm (.str t)), none, none] :=
      s_set (e_mt e_cst rfl (a_one (e_fresh ec)) (join_ones (by omega)))
    let δ4 : Dl := [some (.imm (webD w)), some (.imm (webD v)), some (.imm (optD pl)), some (.imm (nameD w.ls (fOf w.ls t))), some (.imm (.str t)), none, none]
    have hlead : leadB w v t = true := (leadB_iff hw hv t).mpr ⟨_, e1.symm, e2⟩
    have fl := f_leads hw hv (s := t) (by omega)
    rw [hlead] at fl
    have t2 : Tv (orT (notT (truthF (callF F__law_leads [] (consA (readF 0) (consA (readF 1) (consA (readF 4) (nilA))))))) (andT (isNT false (readF 2)) (boolF (op2F gtD (readF 4) (readF 2))))) δ4 false δ4 := by
      refine t_or_f (t_not (k := true) (t_truth (e_call (a_three (e_read rfl) (e_read rfl) (e_read rfl)) fl) rfl)) ?_
      cases pl with
      | none => exact t_and_f (t_isN (d := .non) (e_read rfl))
      | some s =>
        obtain ⟨f, hs, hf⟩ := hp s rfl
        have : ¬ s < t := by
          rw [hs]
          exact e3 f hf
        refine t_and_t (t_isN (d := .str s) (e_read rfl)) (t_bool (e_op2 (a := .str t) (b := .str s) (e_read rfl) (e_read rfl) ?_))
        simp only [gtD, ltD, decide_eq_false this]
    have t3 : Tv (boolF (ownF (isC 0) F_Web___eq__ notBl (two (methF 0 F_Web_renamed [] (readF 0) (consA (readF 3) (nilA))) (readF 1)))) δ4 false δ4 :=
      t_bool (e_own2 (e_meth (e_read rfl) (a_one (e_read rfl)) (f_renamed hw hv e2)) (e_read rfl) rfl rfl (f_eq_self v) rfl)
    have t4 : Tv (boolF (op2F gtD (ownF (isC 0) F_Web___len__ smallNat (consA (readF 0) nilA)) (cstF (.int (5))))) δ4 (decide ((5 : Int) < w.ls.length)) δ4 := t_bool (e_op2 (e_len hw rfl) e_cst rfl)
    by_cases q : (5 : Int) < w.ls.length
    · rw [decide_eq_true q] at t4
      exact fn_rt (s_seq st3 (s_seq (s_if_f (t_isN (d := nameD w.ls (fOf w.ls t)) (e_read rfl)) s_next) (s_seq (s_if_f t1 s_next) (s_seq s4 (s_seq (s_if_f t2 s_next) (s_seq (s_if_f t3 s_next) (s_rt (s_if_t t4 (s_ret e_cst))))))))) rfl
    · rw [decide_eq_false q] at t4
      have hv5 := h5 (by omega)
      obtain ⟨o1, o2⟩ := ords_size v.ls
      have o3 := fct_le hv5
      have e5 : Nv (compF (walkF (callF F__law_strings [] (consA (propF 0 F_Web_letters (readF 1)) (nilA)))) (.nm 5) (truthF (callF F__law_leads [] (consA (readF 0) (consA (readF 1) (consA (readF 5) (nilA)))))) (readF 5) [5]) δ4 (.lst (((ords v.ls).filter (leadB w v)).map .str)) δ4 := by
        have := comp_nm (k := 5) (δ := δ4) (c := truthF (callF F__law_leads [] (consA (readF 0) (consA (readF 1) (consA (readF 5) (nilA)))))) (f := readF 5) (P := fun d => match d with | .str s => leadB w v s | _ => false) (g := id)
          (i_walk (f := callF F__law_strings [] (consA (propF 0 F_Web_letters (readF 1)) (nilA))) (e_call (a_one (e_ls (w := v) rfl)) (f_strings hv5)) rfl) (by unfold lim; simp; omega) (.inl rfl) (fun d hd => by
            obtain ⟨s, hs, rfl⟩ := List.mem_map.mp hd
            exact ⟨t_truth (e_call (a_three (e_read rfl) (e_read rfl) (e_read rfl)) (f_leads hw hv (s := s) (by rw [o2 s hs]; omega))) rfl, fun _ => e_read rfl⟩)
        rw [List.map_id, List.filter_map] at this
        exact this
      have hmin : minLD [.lst (((ords v.ls).filter (leadB w v)).map .str)] = some (.str t) := by
        refine min_of (List.mem_filter.mpr ⟨ords_mem ?_, hlead⟩) fun y hy => ?_
        · rw [← e1]
          exact e2.prm
        · obtain ⟨f, hs, hf⟩ := (leadB_iff hw hv y).mp (List.mem_filter.mp hy).2
          rw [hs]
          exact e3 f hf
      have heq := eq_str t t
      rw [decide_eq_true rfl] at heq
      exact fn_rt (s_seq st3 (s_seq (s_if_f (t_isN (d := nameD w.ls (fOf w.ls t)) (e_read rfl)) s_next) (s_seq (s_if_f t1 s_next) (s_seq s4 (s_seq (s_if_f t2 s_next) (s_seq (s_if_f t3 s_next) (s_seq (s_if_f t4 s_next) (s_ret (e_op2 (e_read rfl) (e_bi (a_one (e_fresh e5)) hmin) heq))))))))) rfl
end K03
set_option Elab.async false
set_option linter.all false
set_option maxRecDepth 100000
namespace K03
open PySem DE
/-! ### a case -/
theorem tellD_non {w v : Wb} (hw : w.Ok) (hv : v.Ok) {f : Ch → Ch} (h : Iso w v f) : isNon (tellD w v) = false := by
  unfold tellD
  cases q : tell w v with
  | none => exact (tell_none hw hv q f h).elim
  | some t => rfl
theorem f_case (a b c : Int) : ∃ (a' c' : Int), F__law_case [.par (diceD a b c)] = .ok (.imm (.bl true), some (diceD a' b c')) := by
  -- the letters
  let δ0 : Dl := [some (.par (diceD a b c)), none, none, none, none, none, none, none]
  obtain ⟨r, a1, c1, e1, _⟩ := e_roll (f := cstF (.int 3)) (δ := δ0) (t := 3) rfl e_cst (by decide) (by decide)
  let δ1 : Dl := [some (.par (diceD a1 b c1)), none, none, none, none, none, none, none]
  have tm : ∃ m : Nat, m ≤ 8 ∧ Ev (ifF (boolF (op2F gtD (callIF F__law_roll [] (consA (readF 0) (consA (cstF (.int (3))) (nilA)))) (cstF (.int (0))))) (cstF (.int (5))) (cstF (.int (8)))) δ0 (.int m) δ1 := by
    have t1 : Tv (boolF (op2F gtD (callIF F__law_roll [] (consA (readF 0) (consA (cstF (.int (3))) (nilA)))) (cstF (.int (0))))) δ0 (decide (0 < r)) δ1 := t_bool (e_op2 e1 e_cst rfl)
    cases q : decide (0 < r) with
    | true =>
      rw [q] at t1
      exact ⟨5, by decide, e_if_t t1 e_cst⟩
    | false =>
      rw [q] at t1
      exact ⟨8, by decide, e_if_f t1 e_cst⟩
  obtain ⟨m, hm, em⟩ := tm
  obtain ⟨a2, c2, ls, e2, l1, l2, l3⟩ := f_any a1 b c1 m hm
  have s1 := s_set (n := 1) (e_callI (F := F__law_any_letters) (j := 0) (δ := δ0) (δ1 := δ1) (s := .par (diceD a1 b c1)) (a_two e_cst em) rfl rfl rfl e2)
  simp only [δ1, List.set_cons_zero, List.set_cons_succ, S.put] at s1
  -- the web
  obtain ⟨a3, c3, cs, e3, k1, k2⟩ := f_conflicts a2 b c2 l1 (by omega)
  have hw : Wb.Ok ⟨ls, cs⟩ := ⟨l1, l2, by show ls.length ≤ 10; omega, k1, k2⟩
  generalize hW : (⟨ls, cs⟩ : Wb) = w at hw
  have hWl : ls = w.ls := by rw [← hW]
  have hWc : cs = w.cs := by rw [← hW]
  clear hW
  subst hWl hWc
  have ec : Ev (callIF F__law_conflicts [] (consA (readF 0) (consA (readF 1) (nilA)))) [some (.par (diceD a2 b c2)), some (.imm (.str w.ls)), none, none, none, none, none, none] (.tup (w.cs.map .str)) [some (.par (diceD a3 b c3)), some (.imm (.str w.ls)), none, none, none, none, none, none] :=
    e_callI (j := 0) (s := .par (diceD a2 b c2)) (a_one (e_read rfl)) rfl rfl rfl e3
  have s2 := s_set (n := 2) (e_web hw (a_two (e_read (n := 1) rfl) ec))
  simp only [List.set_cons_zero, List.set_cons_succ] at s2
  -- the planted one
  obtain ⟨a4, c4, v, s, e4, hv, f, hs, hf⟩ := f_planted hw a3 b c3
  have s3 : Sv (asgT (.tp [(.nm 3), (.nm 4)]) (callIF F__law_planted [] (consA (readF 0) (consA (readF 2) (nilA))))) [some (.par (diceD a3 b c3)), some (.imm (.str w.ls)), some (.imm (webD w)), none, none, none, none, none] [some (.par (diceD a4 b c4)), some (.imm (.str w.ls)), some (.imm (webD w)), some (.imm (webD v)), some (.imm (.str s)), none, none, none] := by
    have e := e_callI (F := F__law_planted) (j := 0) (δ := [some (.par (diceD a3 b c3)), some (.imm (.str w.ls)), some (.imm (webD w)), none, none, none, none, none]) (fa := consA (readF 2) nilA) (s := .par (diceD a3 b c3)) (a_one (e_read rfl)) rfl rfl rfl e4
    simp only [Ev] at e
    simp only [Sv, asgT, e, ok_bind, takeR]
    rfl
  -- the bent one, other letters
  obtain ⟨a5, c5, bs, e5, hb⟩ := f_bent hv a4 b c4
  obtain ⟨a6, c6, ms, e6, m1, m2, m3⟩ := f_any a5 b c5 5 (by decide)
  have s4 : Sv (par2S 5 6 (immX (callIF F__law_bent [] (consA (readF 0) (consA (readF 3) (nilA))))) (immX (callIF F__law_any_letters [] (consA (readF 0) (consA (cstF (.int (0))) (consA (cstF (.int (5))) (nilA)))))))
      [some (.par (diceD a4 b c4)), some (.imm (.str w.ls)), some (.imm (webD w)), some (.imm (webD v)), some (.imm (.str s)), none, none, none] [some (.par (diceD a6 b c6)), some (.imm (.str w.ls)), some (.imm (webD w)), some (.imm (webD v)), some (.imm (.str s)), some (.imm (webD ⟨v.ls, bs⟩)), some (.imm (.str ms)), none] := by
    have x1 := e_callI (F := F__law_bent) (j := 0) (δ := [some (.par (diceD a4 b c4)), some (.imm (.str w.ls)), some (.imm (webD w)), some (.imm (webD v)), some (.imm (.str s)), none, none, none]) (fa := consA (readF 3) nilA) (s := .par (diceD a4 b c4)) (a_one (e_read rfl)) rfl rfl rfl e5
    have x2 := e_callI (F := F__law_any_letters) (j := 0) (δ := [some (.par (diceD a5 b c5)), some (.imm (.str w.ls)), some (.imm (webD w)), some (.imm (webD v)), some (.imm (.str s)), none, none, none]) (fa := consA (cstF (.int (0))) (consA (cstF (.int (5))) (nilA))) (s := .par (diceD a5 b c5)) (a_two e_cst e_cst) rfl rfl rfl e6
    simp only [Ev, List.set_cons_zero, S.put] at x1 x2
    simp only [Sv, par2S, xX, immX, x1, ok_bind, takeR, pure_ok, okX, if_true, x2]
    rfl
  -- the drawn one
  obtain ⟨a7, c7, ds, e7, d1, d2⟩ := f_conflicts a6 b c6 m1 (by omega)
  have hd : Wb.Ok ⟨ms, ds⟩ := ⟨m1, m2, by show ms.length ≤ 10; omega, d1, d2⟩
  have ed : Ev (callIF F__law_conflicts [] (consA (readF 0) (consA (readF 6) (nilA)))) [some (.par (diceD a6 b c6)), some (.imm (.str w.ls)), some (.imm (webD w)), some (.imm (webD v)), some (.imm (.str s)), some (.imm (webD ⟨v.ls, bs⟩)), some (.imm (.str ms)), none] (.tup (ds.map .str)) [some (.par (diceD a7 b c7)), some (.imm (.str w.ls)), some (.imm (webD w)), some (.imm (webD v)), some (.imm (.str s)), some (.imm (webD ⟨v.ls, bs⟩)), some (.imm (.str ms)), none] :=
    e_callI (j := 0) (s := .par (diceD a6 b c6)) (a_one (e_read rfl)) rfl rfl rfl e7
  have s5 := s_set (n := 7) (e_web hd (a_two (e_read (n := 6) rfl) ed))
  simp only [List.set_cons_zero, List.set_cons_succ] at s5
  -- what is asked
  generalize hu : (⟨v.ls, bs⟩ : Wb) = u at *
  generalize hx : (⟨ms, ds⟩ : Wb) = x at *
  have hul : u.ls = v.ls := by rw [← hu]
  have hxl : x.ls.length ≤ 5 := by rw [← hx]; exact m3
  have hvl := (hf.len hw hv).1
  let δ : Dl := [some (.par (diceD a7 b c7)), some (.imm (.str w.ls)), some (.imm (webD w)), some (.imm (webD v)), some (.imm (.str s)), some (.imm (webD u)), some (.imm (.str ms)), some (.imm (webD x))]
  have q1 := f_told hw hv (by omega) (some s) (fun z hz => by cases hz; exact ⟨f, hs, hf⟩)
  have q2 := f_told hw hb (by rw [hul]; omega) none (fun z hz => by cases hz)
  have q3 := f_told hw hd (by omega) none (fun z hz => by cases hz)
  have q4 := f_told hw hw (by omega) (some w.ls) (fun z hz => by cases hz; exact ⟨id, by simp, Iso.refl w⟩)
  have i1 : Sv (ifS (orT (notT (truthF (callF F__law_told_right [] (consA (readF 2) (consA (readF 3) (consA (readF 4) (nilA))))))) (notT (truthF (callF F__law_told_right [] (consA (readF 2) (consA (readF 5) (consA (cstF .non) (nilA)))))))) (retS (cstF (.bl false))) (nextS)) δ δ :=
    s_if_f (t_or_f (t_not (k := true) (t_truth (e_call (a_three (e_read rfl) (e_read rfl) (e_read rfl)) q1) rfl)) (t_not (k := true) (t_truth (e_call (a_three (e_read rfl) (e_read rfl) e_cst) q2) rfl))) s_next
  have i2 : Sv (ifS (orT (notT (truthF (callF F__law_told_right [] (consA (readF 2) (consA (readF 7) (consA (cstF .non) (nilA))))))) (notT (truthF (callF F__law_told_right [] (consA (readF 2) (consA (readF 2) (consA (propF 0 F_Web_letters (readF 2)) (nilA)))))))) (retS (cstF (.bl false))) (nextS)) δ δ :=
    s_if_f (t_or_f (t_not (k := true) (t_truth (e_call (a_three (e_read rfl) (e_read rfl) e_cst) q3) rfl)) (t_not (k := true) (t_truth (e_call (a_three (e_read rfl) (e_read rfl) (e_ls (w := w) rfl)) q4) rfl))) s_next
  obtain ⟨g, hg⟩ := hf.inv hw hv
  have n1 : Ev (isNF' true (callF F_renaming [] (consA (readF 3) (consA (readF 2) (nilA))))) δ (.bl false) δ := by
    have := e_isNF (k := true) (δ := δ) (e_call (fa := consA (readF 3) (consA (readF 2) (nilA))) (a_two (e_read rfl) (e_read rfl)) (f_renaming hv hw))
    rwa [tellD_non hv hw hg] at this
  have n2 : Ev (isNF' true (callF F_renaming [] (consA (readF 2) (consA (readF 3) (nilA))))) δ (.bl false) δ := by
    have := e_isNF (k := true) (δ := δ) (e_call (fa := consA (readF 2) (consA (readF 3) (nilA))) (a_two (e_read rfl) (e_read rfl)) (f_renaming hw hv))
    rwa [tellD_non hw hv hf] at this
  have i3 : Sv (ifS (boolF (op2F neD (isNF' true (callF F_renaming [] (consA (readF 3) (consA (readF 2) (nilA))))) (isNF' true (callF F_renaming [] (consA (readF 2) (consA (readF 3) (nilA))))))) (retS (cstF (.bl false))) (nextS)) δ δ :=
    s_if_f (t_bool (e_op2 n1 n2 rfl)) s_next
  have t4 : Tv (boolF (op2F neD (biF lenD (consA (propF 0 F_Web_conflicts (readF 5)) (nilA))) (biF lenD (consA (propF 0 F_Web_conflicts (readF 2)) (nilA))))) δ (!(u.cs.length == w.cs.length)) δ := by
    rw [← int_beq]
    exact t_bool (e_op2 (e_bi (a_one (e_cs (w := u) rfl)) (by rw [len_tup, List.length_map])) (e_bi (a_one (e_cs (w := w) rfl)) (by rw [len_tup, List.length_map])) (ne_int _ _))
  have i4 : Sv (ifS (andT (boolF (op2F neD (biF lenD (consA (propF 0 F_Web_conflicts (readF 5)) (nilA))) (biF lenD (consA (propF 0 F_Web_conflicts (readF 2)) (nilA))))) (isNT false (callF F_renaming [] (consA (readF 2) (consA (readF 5) (nilA)))))) (retS (cstF (.bl false))) (nextS)) δ δ := by
    by_cases q : u.cs.length = w.cs.length
    · rw [beq_iff_eq.mpr q] at t4
      exact s_if_f (t_and_f t4) s_next
    · rw [beq_eq_false_iff_ne.mpr q] at t4
      have hn : tellD w u = .non := by
        unfold tellD tell
        rw [if_pos (.inr fun e => q e.symm)]
      have := t_isN (k := false) (δ := δ) (e_call (fa := consA (readF 2) (consA (readF 5) (nilA))) (a_two (e_read rfl) (e_read rfl)) (f_renaming hw hb))
      rw [hn] at this
      exact s_if_f (t_and_t t4 this) s_next
  have heq := eq_str w.ls w.ls
  rw [decide_eq_true rfl] at heq
  have i5 : Rv (retS (andF (ownF (isC 0) F_Web___eq__ someD (two (readF 2) (makeF 0 F_Web___init__ [] (consA (readF 1) (consA (propF 0 F_Web_conflicts (readF 2)) (nilA)))))) (op2F eqD (propF 0 F_Web_letters (readF 2)) (readF 1)))) δ (.bl true) δ :=
    s_ret (e_and_t (e_own2 (a := webD w) (b := webD w) (e_read rfl) (e_web hw (a_two (e_read rfl) (e_cs (w := w) rfl))) rfl rfl (f_eq_self w) rfl) (e_op2 (e_ls (w := w) rfl) (e_read rfl) heq))
  refine ⟨a7, c7, ?_⟩
  unfold F__law_case
  exact fn_rt (s_seq s1 (s_seq s2 (s_seq s3 (s_seq s4 (s_seq s5 (s_seq i1 (s_seq i2 (s_seq i3 (s_seq i4 i5))))))))) rfl
end K03
set_option Elab.async false
set_option linter.all false
set_option maxRecDepth 100000
namespace K03
open PySem DE
/-! ### the law -/
theorem pow_ok {i j : Int} (h : 0 ≤ j ∧ j ≤ 1000000 ∧ i.natAbs < 2 ^ 64) : powD (.int i) (.int j) = some (.int (i ^ j.toNat)) := if_pos h
theorem mod_ok {i j : Int} (h : 0 < j) : modD (.int i) (.int j) = some (.int (i % j)) := if_pos h
theorem mul_ok {i j : Int} (h : smallI j = true) : mulD (.int i) (.int j) = some (.int (i * j)) := by
  simp [mulD, h]
theorem mul_ok1 {i j : Int} (h : smallI i = true) : mulD (.int i) (.int j) = some (.int (i * j)) := by
  simp [mulD, h]
theorem p64 : (2 : Int) ^ 64 = 18446744073709551616 := by decide
theorem small_of {i : Int} (h : -18446744073709551616 < i) (h2 : i < 18446744073709551616) : smallI i = true := by
  unfold smallI
  rw [p64, decide_eq_true h, decide_eq_true h2]
  rfl
theorem ten_lt : (10 : Int).natAbs < 2 ^ 64 := by decide
theorem e10 {j : Int} (h : 0 ≤ j ∧ j ≤ 1000000) {δ : Dl} : Ev (op2F powD (cstF (.int (10))) (cstF (.int j))) δ (.int (10 ^ j.toNat)) δ := e_op2 e_cst e_cst (pow_ok ⟨h.1, h.2, ten_lt⟩)
theorem max_int (i j : Int) : max2D [.int i, .int j] = some (.int (if j > i then j else i)) := rfl
theorem big_pos : (0 : Int) < 10 ^ 60 * 10 ^ 60 := by decide
theorem mul_big {i j : Int} (h : i.natAbs < 2 ^ 1000) (h2 : j.natAbs < 2 ^ 1000) : mulD (.int i) (.int j) = some (.int (i * j)) := by
  simp only [mulD, decide_eq_true h, decide_eq_true h2, Bool.and_self, Bool.or_true, if_true]
theorem big_lt : ((10 : Int) ^ 60).natAbs < 2 ^ 1000 := by decide +kernel
theorem f_dice (ns : List Int) (k : Nat) (hk : k < 3) (hn : ns.length ≤ 63) : ∃ a b c : Int, F__law_dice [.imm (.frl (ns.map .int)), .imm (.int k)] = .ok (.own (diceD a b c), none) := by
  let δ0 : Dl := [some (.imm (.frl (ns.map .int))), some (.imm (.int k)), none, none]
  -- the cell
  have e1 : ∃ cell : Int, Ev (ifF (boolF (op2F ltD (readF 1) (biF lenD (consA (readF 0) (nilA))))) (biF intD (consA (op2F ixD (readF 0) (readF 1)) (nilA))) (op2F addD (op2F mulD (cstF (.int (83))) (readF 1)) (cstF (.int (47))))) δ0 (.int cell) δ0 := by
    have t : Tv (boolF (op2F ltD (readF 1) (biF lenD (consA (readF 0) (nilA))))) δ0 (decide ((k : Int) < ns.length)) δ0 := t_bool (e_op2 (e_read rfl) (e_bi (d := .int ns.length) (a_one (e_read rfl)) (by simp [lenD])) rfl)
    by_cases q : (k : Int) < ns.length
    · rw [decide_eq_true q] at t
      have hq : k < ns.length := by omega
      refine ⟨ns[k], e_if_t t (e_bi (a_one (e_op2 (d := .int ns[k]) (e_read rfl) (e_read rfl) ?_)) rfl)⟩
      have hx : L2.ixN (ns.map D.int).length (k : Int) = some k := by
        unfold L2.ixN
        simp [hq]
      simp only [ixD, L2.atI, hx, Option.bind_some]
      rw [List.getElem?_eq_getElem (by simpa using hq)]
      simp
    · rw [decide_eq_false q] at t
      exact ⟨_, e_if_f t (e_op2 (e_op2 e_cst (e_read rfl) (mul_ok1 (small_of (by decide) (by decide)))) e_cst rfl)⟩
  obtain ⟨cell, e1⟩ := e1
  have s1 := s_set (n := 2) e1
  simp only [δ0, List.set_cons_zero, List.set_cons_succ] at s1
  let δ1 : Dl := [some (.imm (.frl (ns.map .int))), some (.imm (.int k)), some (.imm (.int cell)), none]
  have eabs : ∀ δ : Dl, δ[2]? = some (some (.imm (.int cell))) → Ev (biF absD (consA (readF 2) (nilA))) δ (.int (if cell < 0 then -cell else cell)) δ := fun δ h => e_bi (a_one (e_read h)) rfl
  have e2 : ∃ left : Int, Ev (op2F modD (biF max2D (consA (cstF (.int (0))) (consA (op2F subD (biF absD (consA (readF 2) (nilA))) (op2F powD (cstF (.int (10))) (cstF (.int (16))))) (nilA)))) (op2F mulD (op2F powD (cstF (.int (10))) (cstF (.int (60)))) (op2F powD (cstF (.int (10))) (cstF (.int (60)))))) δ1 (.int left) δ1 :=
    ⟨_, e_op2 (e_bi (a_two e_cst (e_op2 (eabs δ1 rfl) (e10 (by decide)) rfl)) (max_int _ _)) (e_op2 (e10 (by decide)) (e10 (by decide)) (mul_big big_lt big_lt)) (mod_ok big_pos)⟩
  obtain ⟨left, e2⟩ := e2
  have s2 := s_set (n := 3) e2
  simp only [δ1, List.set_cons_zero, List.set_cons_succ] at s2
  let δ2 : Dl := [some (.imm (.frl (ns.map .int))), some (.imm (.int k)), some (.imm (.int cell)), some (.imm (.int left))]
  have e3 : ∃ b : Int, Ev (op2F addD (op2F addD (op2F addD (op2F mulD (op2F modD (biF absD (consA (readF 2) (nilA))) (cstF (.int (1152921504606846599)))) (cstF (.int (61)))) (op2F mulD (cstF (.int (787))) (readF 1))) (op2F mulD (cstF (.int (41))) (biF intD (consA (op2F ltD (readF 2) (cstF (.int (0)))) (nilA))))) (cstF (.int (7)))) δ2 (.int b) δ2 :=
    ⟨_, e_op2 (e_op2 (e_op2 (e_op2 (e_op2 (eabs δ2 rfl) e_cst (mod_ok (by decide))) e_cst (mul_ok (small_of (by decide) (by decide)))) (e_op2 e_cst (e_read rfl) (mul_ok1 (small_of (by decide) (by decide)))) rfl) (e_op2 e_cst (e_bi (a_one (e_op2 (e_read rfl) e_cst rfl)) rfl) (mul_ok1 (small_of (by decide) (by decide)))) rfl) e_cst rfl⟩
  obtain ⟨b, e3⟩ := e3
  refine ⟨left, b, 0, ?_⟩
  have n3 : Nv (lstN (consA (readF 3) (consA (op2F addD (op2F addD (op2F addD (op2F mulD (op2F modD (biF absD (consA (readF 2) (nilA))) (cstF (.int (1152921504606846599)))) (cstF (.int (61)))) (op2F mulD (cstF (.int (787))) (readF 1))) (op2F mulD (cstF (.int (41))) (biF intD (consA (op2F ltD (readF 2) (cstF (.int (0)))) (nilA))))) (cstF (.int (7)))) (consA (cstF (.int (0))) (nilA))))) δ2 (diceD left b 0) δ2 :=
    n_lst (a_three (e_read rfl) e3 e_cst) (by unfold lim; simp)
  have r3 : retNewS (lstN (consA (readF 3) (consA (op2F addD (op2F addD (op2F addD (op2F mulD (op2F modD (biF absD (consA (readF 2) (nilA))) (cstF (.int (1152921504606846599)))) (cstF (.int (61)))) (op2F mulD (cstF (.int (787))) (readF 1))) (op2F mulD (cstF (.int (41))) (biF intD (consA (op2F ltD (readF 2) (cstF (.int (0)))) (nilA))))) (cstF (.int (7)))) (consA (cstF (.int (0))) (nilA))))) δ2 = .ok (.rt (.own (diceD left b 0)), δ2) := by
    simp only [Nv] at n3
    simp only [retNewS, n3, ok_bind, pure_ok]
  unfold F__law_dice
  exact fn_rt (s_seq s1 (s_seq s2 r3)) rfl
theorem n_callN {F : FnSem} {fa : FA} {δ δ1 : Dl} {ds : List D} {d : D} {p : Option D} (h1 : Av fa δ ds δ1) (h2 : F (ds.map .imm) = .ok (.own d, p)) : Nv (callNF F [] fa) δ d δ1 := by
  simp only [Av, Nv] at *
  simp only [callNF, h1, ok_bind, takeRs_imm, List.append_nil, h2, pure_ok]
theorem e_callFr {F : FnSem} {f : FN} {δ δ1 : Dl} {d d' : D} {p : Option D} (h1 : Nv f δ d δ1) (h2 : F [.par d] = .ok (.imm d', p)) : Ev (callFrF F f) δ d' δ1 := by
  simp only [Nv, Ev] at *
  simp only [callFrF, h1, ok_bind, h2, pure_ok]
def lawB : FS := ifS (notT (truthF (callFrF F__law_case (callNF F__law_dice [] (consA (readF 0) (consA (readF 1) (nilA))))))) (retS (cstF (.bl false))) (nextS)
theorem law_loop (ns : List Int) (hn : ns.length ≤ 63) : ∀ (l : List Nat) (k1 : Option S), free1 k1 → (∀ k ∈ l, k < 3) → ∃ m1, forL (.nm 1) lawB (l.map fun k : Nat => D.int (k : Int)) [some (.imm (.frl (ns.map .int))), k1] = .ok (.nx, [some (.imm (.frl (ns.map .int))), m1])
  | [], k1, _, _ => ⟨k1, rfl⟩
  | k :: l, k1, h1, hl => by
    obtain ⟨m1, ih⟩ := law_loop ns hn l (some (.imm (.int k))) (.inr ⟨_, rfl⟩) fun j hj => hl j (List.mem_cons_of_mem _ hj)
    refine ⟨m1, ?_⟩
    have st : setTg (.nm 1) (.int (k : Int)) [some (.imm (.frl (ns.map .int))), k1] = .ok [some (.imm (.frl (ns.map .int))), some (.imm (.int k))] := by
      rcases h1 with rfl | ⟨z, rfl⟩ <;> rfl
    obtain ⟨a, b, c, ed⟩ := f_dice ns k (hl k List.mem_cons_self) hn
    obtain ⟨a', c', ec⟩ := f_case a b c
    have ea : Av (consA (readF 0) (consA (readF 1) (nilA))) [some (.imm (.frl (ns.map .int))), some (.imm (.int k))] [.frl (ns.map .int), .int k] [some (.imm (.frl (ns.map .int))), some (.imm (.int k))] := a_two (e_read rfl) (e_read rfl)
    have en : Nv (callNF F__law_dice [] (consA (readF 0) (consA (readF 1) (nilA)))) [some (.imm (.frl (ns.map .int))), some (.imm (.int k))] (diceD a b c) [some (.imm (.frl (ns.map .int))), some (.imm (.int k))] := n_callN ea ed
    have ef : Ev (callFrF F__law_case (callNF F__law_dice [] (consA (readF 0) (consA (readF 1) (nilA))))) [some (.imm (.frl (ns.map .int))), some (.imm (.int k))] (.bl true) [some (.imm (.frl (ns.map .int))), some (.imm (.int k))] := e_callFr en ec
    have bd : lawB [some (.imm (.frl (ns.map .int))), some (.imm (.int k))] = .ok (.nx, [some (.imm (.frl (ns.map .int))), some (.imm (.int k))]) := s_if_f (t_not (k := true) (t_truth ef rfl)) s_next
    simp only [List.map_cons]
    unfold forL
    rw [st, ok_bind, bd, ok_bind]
    exact ih
theorem web0 : Wb.Ok ⟨[], []⟩ := ⟨by simp, by simp, by simp, by simp, by simp⟩
theorem tell0 : tellD ⟨[], []⟩ ⟨[], []⟩ = .dk [] [] := rfl
theorem e_make0 {δ : Dl} : Ev (makeF 0 F_Web___init__ [.str [], .tup []] nilA) δ (webD ⟨[], []⟩) δ := by
  have h := f_init web0
  simp only [List.map_nil] at h
  simp only [Ev, makeF, nilA, ok_bind, takeRs, List.nil_append, List.map_cons, List.map_nil, h, webD, if_true, pure_ok]
theorem min_int (i j : Int) : min2D [.int i, .int j] = some (.int (if j < i then j else i)) := rfl
theorem law_true (ns : List Int) (hn : ns.length ≤ 63) : ∃ p, F_law [.imm (.frl (ns.map D.int))] = .ok (.imm (.bl true), p) := by
  let δ0 : Dl := [some (.imm (.frl (ns.map .int))), none]
  obtain ⟨m, hm, em⟩ : ∃ m : Nat, m ≤ 3 ∧ Ev (biF max2D (consA (cstF (.int (1))) (consA (biF min2D (consA (cstF (.int (3))) (consA (biF lenD (consA (readF 0) (nilA))) (nilA)))) (nilA)))) δ0 (.int m) δ0 := by
    have e : Ev (biF max2D (consA (cstF (.int (1))) (consA (biF min2D (consA (cstF (.int (3))) (consA (biF lenD (consA (readF 0) (nilA))) (nilA)))) (nilA)))) δ0 (.int (if (if (ns.length : Int) < 3 then (ns.length : Int) else 3) > 1 then (if (ns.length : Int) < 3 then (ns.length : Int) else 3) else 1)) δ0 :=
      e_bi (a_two e_cst (e_bi (a_two e_cst (e_bi (d := .int ns.length) (a_one (e_read rfl)) (by simp [lenD]))) (min_int _ _))) (max_int _ _)
    generalize hz : (if (if (ns.length : Int) < 3 then (ns.length : Int) else 3) > 1 then (if (ns.length : Int) < 3 then (ns.length : Int) else 3) else 1) = z at e
    have hz2 : 0 ≤ z ∧ z ≤ 3 := by
      rw [← hz]
      split <;> split <;> omega
    obtain ⟨k, rfl⟩ : ∃ k : Nat, z = (k : Int) := ⟨z.toNat, by omega⟩
    exact ⟨k, by omega, e⟩
  obtain ⟨m1, hl⟩ := law_loop ns hn (List.range m) none (.inl rfl) (fun k hk => by
    have := List.mem_range.mp hk
    omega)
  have hr : rngL 0 m = (List.range m).map fun k : Nat => D.int (k : Int) := by
    rw [rngL_range]
    refine List.map_congr_left fun k _ => ?_
    simp only [Int.zero_add]
  rw [← hr] at hl
  have r2 : Rv (retS (op2F eqDkD (callF F_renaming [] (consA (makeF 0 F_Web___init__ [.str [], .tup []] nilA) (consA (makeF 0 F_Web___init__ [.str [], .tup []] nilA) (nilA)))) (dictF (dk0N)))) [some (.imm (.frl (ns.map .int))), m1] (.bl true) [some (.imm (.frl (ns.map .int))), m1] := by
    have e := f_renaming web0 web0
    rw [tell0] at e
    exact s_ret (e_op2 (e_call (a_two e_make0 e_make0) e) (e_dict (d := .dk [] []) rfl) rfl)
  refine ⟨none, ?_⟩
  unfold F_law
  exact fn_rt (s_seq (s_for (i_range em (by omega)) hl) r2) rfl
end K03
set_option Elab.async false
set_option linter.all false
set_option maxRecDepth 100000
set_option maxHeartbeats 2000000
namespace K03
open PySem PySem.Spec PyProof.Rows L2 DE
def top (i : Nat) : Stmt := PySem.Challenge.pw_turnwebs_k03_whole_renamings.main.body.getD i (.Pass ⟨0, 0, 0, 0⟩)
def d__law_roll : DefX := ⟨fun K => He.ga K "_law_roll", "_law_roll", "_law_roll", top 28, fun _ => []⟩
def d__law_mixed : DefX := ⟨fun K => He.ga K "_law_mixed", "_law_mixed", "_law_mixed", top 29, fun _ => []⟩
def d__law_any_letters : DefX := ⟨fun K => He.ga K "_law_any_letters", "_law_any_letters", "_law_any_letters", top 33, fun _ => []⟩
def d_is_letter : DefX := ⟨fun K => He.ga K "is_letter", "is_letter", "is_letter", top 10, fun _ => []⟩
def d_are_ascending : DefX := ⟨fun K => He.ga K "are_ascending", "are_ascending", "are_ascending", top 11, fun _ => []⟩
def d_are_letters : DefX := ⟨fun K => He.ga K "are_letters", "are_letters", "are_letters", top 16, fun _ => []⟩
def d_pairs_of : DefX := ⟨fun K => He.ga K "pairs_of", "pairs_of", "pairs_of", top 15, fun _ => []⟩
def d_are_conflicts : DefX := ⟨fun K => He.ga K "are_conflicts", "are_conflicts", "are_conflicts", top 17, fun _ => []⟩
def d_pair_of : DefX := ⟨fun K => He.ga K "pair_of", "pair_of", "pair_of", top 14, fun _ => []⟩
def d_close_row : DefX := ⟨fun K => He.ga K "close_row", "close_row", "close_row", top 18, fun _ => []⟩
def d_Web___init__ : DefX := ⟨fun K => He.ma K (He.ga K "Web") "__init__", "__init__", "Web.__init__", inClass (top 20) 1, fun K => [.str "", .ref (dfAt K (He.ma K (He.ga K "Web") "__init__") 1)]⟩
def d__law_pairs : DefX := ⟨fun K => He.ga K "_law_pairs", "_law_pairs", "_law_pairs", top 31, fun _ => []⟩
def d__law_some : DefX := ⟨fun K => He.ga K "_law_some", "_law_some", "_law_some", top 30, fun _ => []⟩
def d__law_conflicts : DefX := ⟨fun K => He.ga K "_law_conflicts", "_law_conflicts", "_law_conflicts", top 32, fun _ => []⟩
def d_Web_letters : DefX := ⟨fun K => pfAt K (He.ga K "Web") "letters", "letters", "Web.letters", inClass (top 20) 3, fun _ => []⟩
def d_Web_conflicts : DefX := ⟨fun K => pfAt K (He.ga K "Web") "conflicts", "conflicts", "Web.conflicts", inClass (top 20) 4, fun _ => []⟩
def d__law_planted : DefX := ⟨fun K => He.ga K "_law_planted", "_law_planted", "_law_planted", top 36, fun _ => []⟩
def d_Web_loose : DefX := ⟨fun K => pfAt K (He.ga K "Web") "loose", "loose", "Web.loose", inClass (top 20) 5, fun _ => []⟩
def d__law_bent : DefX := ⟨fun K => He.ga K "_law_bent", "_law_bent", "_law_bent", top 37, fun _ => []⟩
def d_require_web : DefX := ⟨fun K => He.ga K "require_web", "require_web", "require_web", top 21, fun _ => []⟩
def d_can_become : DefX := ⟨fun K => He.ga K "can_become", "can_become", "can_become", top 23, fun _ => []⟩
def d_renamed_behind : DefX := ⟨fun K => He.ga K "renamed_behind", "renamed_behind", "renamed_behind", top 24, fun _ => []⟩
def d_renaming : DefX := ⟨fun K => He.ga K "renaming", "renaming", "renaming", top 25, fun _ => []⟩
def d_Web___len__ : DefX := ⟨fun K => He.ma K (He.ga K "Web") "__len__", "__len__", "Web.__len__", inClass (top 20) 15, fun _ => []⟩
def d__law_orders : DefX := ⟨fun K => He.ga K "_law_orders", "_law_orders", "_law_orders", top 34, fun _ => []⟩
def d__law_strings : DefX := ⟨fun K => He.ga K "_law_strings", "_law_strings", "_law_strings", top 39, fun _ => []⟩
def d__law_leads : DefX := ⟨fun K => He.ga K "_law_leads", "_law_leads", "_law_leads", top 35, fun _ => []⟩
def d_Web___contains__ : DefX := ⟨fun K => He.ma K (He.ga K "Web") "__contains__", "__contains__", "Web.__contains__", inClass (top 20) 14, fun _ => []⟩
def d_Web_renamed : DefX := ⟨fun K => He.ma K (He.ga K "Web") "renamed", "renamed", "Web.renamed", inClass (top 20) 10, fun _ => []⟩
def d_Web___eq__ : DefX := ⟨fun K => He.ma K (He.ga K "Web") "__eq__", "__eq__", "Web.__eq__", inClass (top 20) 17, fun _ => []⟩
def d__law_told_right : DefX := ⟨fun K => He.ga K "_law_told_right", "_law_told_right", "_law_told_right", top 38, fun _ => []⟩
def d__law_case : DefX := ⟨fun K => He.ga K "_law_case", "_law_case", "_law_case", top 40, fun _ => []⟩
def d__law_dice : DefX := ⟨fun K => He.ga K "_law_dice", "_law_dice", "_law_dice", top 27, fun _ => []⟩
def d_law : DefX := ⟨fun K => He.ga K "law", "law", "law", top 41, fun _ => []⟩
def fn : List DefX := [d__law_roll, d__law_mixed, d__law_any_letters, d_is_letter, d_are_ascending, d_are_letters, d_pairs_of, d_are_conflicts, d_pair_of, d_close_row, d_Web___init__, d__law_pairs, d__law_some, d__law_conflicts, d_Web_letters, d_Web_conflicts, d__law_planted, d_Web_loose, d__law_bent, d_require_web, d_can_become, d_renamed_behind, d_renaming, d_Web___len__, d__law_orders, d__law_strings, d__law_leads, d_Web___contains__, d_Web_renamed, d_Web___eq__, d__law_told_right, d__law_case, d__law_dice, d_law]
def fa : List FactX := [fFree "len",
  fFree "min",
  fFree "max",
  fFree "range",
  fGlo "_law_case",
  fGlo "_law_dice",
  fGlo "renaming",
  fGlo "Web",
  fMk "Web",
  fMeth "Web" "__init__",
  fFree "int",
  fFree "abs",
  fGlo "_law_any_letters",
  fGlo "_law_roll",
  fGlo "_law_conflicts",
  fGlo "_law_planted",
  fGlo "_law_bent",
  fGlo "_law_told_right",
  fProp "Web" "letters",
  fSCls "Web",
  fProp "Web" "conflicts",
  fMeth "Web" "__eq__",
  fEq "Web",
  fGlo "are_letters",
  fInt "MAX_LETTERS" (10),
  fGlo "are_conflicts",
  fSlot "Web" "own_letters" 2,
  fSlot "Web" "own_conflicts" 1,
  fGlo "close_row",
  fSlot "Web" "own_close" 0,
  fGlo "require_web",
  fGlo "renamed_behind",
  fFree "dict",
  fFree "zip",
  fGlo "_law_mixed",
  fFree "list",
  fFree "sorted",
  fGlo "_law_pairs",
  fGlo "_law_some",
  fFree "tuple",
  fProp "Web" "loose",
  fMeth "Web" "__len__",
  fGlo "_law_strings",
  fGlo "_law_leads",
  fFree "any",
  fFree "isinstance",
  fMeth "Web" "renamed",
  fKit (fun _ => .type "NoneType") "Web" false,
  fKit (fun _ => .type "bool") "Web" false,
  fKit (fun _ => .type "int") "Web" false,
  fKit (fun _ => .type "str") "Web" false,
  fKit (fun _ => .type "tuple") "Web" false,
  fKit (fun _ => .type "list") "Web" false,
  fKit (fun _ => .type "dict") "Web" false,
  fKit (fun K => .ref (He.ga K "Web")) "Web" true,
  fIsi "Web",
  fFree "str",
  fGlo "is_letter",
  fFree "all",
  fGlo "are_ascending",
  fGlo "pairs_of",
  fGlo "pair_of",
  fGlo "can_become",
  fFree "enumerate",
  fGlo "_law_orders",
  fMeth "Web" "__contains__",
  fun K => tup0B K (dfAt K (He.ma K (He.ga K "Web") "__init__") 1),
  fGlo "law"]
abbrev SaysH (K : PySem.W.Frag) (mg : Str → Option Value) : Prop := Says fa fn K mg
def clsOf (K : PySem.W.Frag) : Nat → Addr
  | 0 => He.ga K "Web"
  | _ => 0
abbrev CT (K : PySem.W.Frag) : DE.Ctx := ⟨K, clsOf K⟩
section
variable {P : Program} {w : World} {K : PySem.W.Frag} {mg : Str → Option Value} {base : Heap}
theorem sc__law_roll : FnScope ["dice", "total", "found", "one", "two"] ["dice", "total"] (defScope d__law_roll.st) := ⟨rfl, rfl, rfl, by decide +kernel, rfl, by decide +kernel, by decide +kernel⟩
theorem ok__law_roll (Z : SaysH K mg) : ∃ fd : FuncData, PySem.W.keepIn K (.ref (d__law_roll.at_ K)) = true ∧ (Binds K fd ["dice", "total"] []) ∧ FnOk P w K mg base (L2.CX P w) 1 (d__law_roll.at_ K) fd ["dice", "total"] (spF (CT K) 2 F__law_roll) := by
  have sc := sc__law_roll
  obtain ⟨fd, FF⟩ := Z.c.def_ 0 (d := d__law_roll) rfl
  refine ⟨fd, FF.kp, (FF.bindsN fun _ _ _ _ _ _ us hl => match us, hl with | [_, _], _ => rfl), fn_okD (N := ["dice", "total", "found", "one", "two"]) FF sc rfl rfl fun cdv A outer s H E hr ps tk po => ?_⟩
  exact (dss_cons (ds_if (dt_gt (de_ix hr (de_name (pv 0)) de_int) de_int) (dss_cons (ds_set sc.nd (de_mod (de_intC (Z.free 10) (da_cons (de_ix hr (de_name (pv 0)) de_int) da_nil)) (de_name (pv 1))))
      (dss_cons (ds_sto (de_name (pv 0)) de_int (de_fdiv (de_ix hr (de_name (pv 0)) de_int) (de_name (pv 1))))
      (dss_one (ds_ret (de_name (pv 2)))))) dss_nil)
      (dss_cons (ds_sto (de_name (pv 0)) de_int (de_add (de_ix hr (de_name (pv 0)) de_int) de_int))
      (dss_cons (ds_set sc.nd (de_mod (de_intC (Z.free 10) (da_cons (de_add (de_ix hr (de_name (pv 0)) de_int) (de_mul de_int (de_ix hr (de_name (pv 0)) de_int))) da_nil)) de_int))
      (dss_cons (ds_set sc.nd (de_add (de_mul (de_mod (de_intC (Z.free 10) (da_cons (de_add (de_mul (de_name (pv 3)) (de_name (pv 3))) (de_mul de_int (de_ix hr (de_name (pv 0)) de_int))) da_nil)) de_int) de_int) (de_name (pv 3))))
      (dss_one (ds_ret (de_mod (de_intC (Z.free 10) (da_cons (de_fdiv (de_name (pv 4)) de_int) da_nil)) (de_name (pv 1)))))))))
theorem sc__law_mixed : FnScope ["dice", "items", "left", "found", "turn"] ["dice", "items"] (defScope d__law_mixed.st) := ⟨rfl, rfl, rfl, by decide +kernel, rfl, by decide +kernel, by decide +kernel⟩
theorem ok__law_mixed (Z : SaysH K mg) : ∃ fd : FuncData, PySem.W.keepIn K (.ref (d__law_mixed.at_ K)) = true ∧ (Binds K fd ["dice", "items"] []) ∧ FnOk P w K mg base (L2.CX P w) 2 (d__law_mixed.at_ K) fd ["dice", "items"] (spF (CT K) 2 F__law_mixed) := by
  have sc := sc__law_mixed
  obtain ⟨fd__law_roll, kp__law_roll, b__law_roll, FO__law_roll⟩ := ok__law_roll (P := P) (w := w) (base := base) Z
  obtain ⟨fd, FF⟩ := Z.c.def_ 1 (d := d__law_mixed) rfl
  refine ⟨fd, FF.kp, (FF.bindsN fun _ _ _ _ _ _ us hl => match us, hl with | [_, _], _ => rfl), fn_okD (N := ["dice", "items", "left", "found", "turn"]) FF sc rfl rfl fun cdv A outer s H E hr ps tk po => ?_⟩
  exact (dss_cons (ds_par sc.nd (dx_own (dn_list (Z.free 35) (da_cons (de_name (pv 1)) da_nil))) (dx_own (dn_lst da_nil)) (by first | rfl | decide +kernel))
      (dss_cons (ds_for (di_range1 (da_cons (de_len (Z.free 0) (da_cons (de_name (pv 1)) da_nil)) da_nil) (Z.free 3)) (dg_name sc.nd) (dss_one (ds_expr (de_mu PySem.F.plainAttrs_list PySem.F.slot_list_append PySem.F.type_list_append mt_append g_app (de_name (pv 3)) (da_cons (de_mu PySem.F.plainAttrs_list PySem.F.slot_list_pop PySem.F.type_list_pop mt_popA g_pop (de_name (pv 2)) (da_cons (de_callI FO__law_roll (hr.mono (by omega)) (Z.glo 13) kp__law_roll b__law_roll ps (da_cons (de_name (pv 0)) (da_cons (de_len (Z.free 0) (da_cons (de_name (pv 2)) da_nil)) da_nil)) (lenA_cons (lenA_cons lenA_nil))) da_nil)) da_nil)))) po)
      (dss_one (ds_ret (de_name (pv 3))))))
theorem sc__law_any_letters : FnScope ["dice", "least", "most", "total"] ["dice", "least", "most"] (defScope d__law_any_letters.st) := ⟨rfl, rfl, rfl, by decide +kernel, rfl, by decide +kernel, by decide +kernel⟩
theorem ok__law_any_letters (Z : SaysH K mg) : ∃ fd : FuncData, PySem.W.keepIn K (.ref (d__law_any_letters.at_ K)) = true ∧ (Binds K fd ["dice", "least", "most"] []) ∧ FnOk P w K mg base (L2.CX P w) 3 (d__law_any_letters.at_ K) fd ["dice", "least", "most"] (spF (CT K) 3 F__law_any_letters) := by
  have sc := sc__law_any_letters
  obtain ⟨fd__law_roll, kp__law_roll, b__law_roll, FO__law_roll⟩ := ok__law_roll (P := P) (w := w) (base := base) Z
  obtain ⟨fd__law_mixed, kp__law_mixed, b__law_mixed, FO__law_mixed⟩ := ok__law_mixed (P := P) (w := w) (base := base) Z
  obtain ⟨fd, FF⟩ := Z.c.def_ 2 (d := d__law_any_letters) rfl
  refine ⟨fd, FF.kp, (FF.bindsN fun _ _ _ _ _ _ us hl => match us, hl with | [_, _, _], _ => rfl), fn_okD (N := ["dice", "least", "most", "total"]) FF sc rfl rfl fun cdv A outer s H E hr ps tk po => ?_⟩
  exact (dss_cons (ds_set sc.nd (de_add (de_name (pv 1)) (de_callI FO__law_roll (hr.mono (by omega)) (Z.glo 13) kp__law_roll b__law_roll ps (da_cons (de_name (pv 0)) (da_cons (de_add (de_sub (de_name (pv 2)) (de_name (pv 1))) de_int) da_nil)) (lenA_cons (lenA_cons lenA_nil)))))
      (dss_one (ds_ret (de_join (de_str (l := [])) (da_cons (de_fresh (dn_sorted (Z.free 36) (da_cons (de_fresh (dn_sl (de_callI FO__law_mixed (hr.mono (by omega)) (Z.glo 34) kp__law_mixed b__law_mixed ps (da_cons (de_name (pv 0)) (da_cons (de_fresh (dn_list (Z.free 35) (da_cons (de_str (l := [97, 98, 99, 100, 101, 102, 103, 104, 105, 106, 107, 108, 109, 110, 111, 112, 113, 114, 115, 116, 117, 118, 119, 120, 121, 122])) da_nil))) da_nil)) (lenA_cons (lenA_cons lenA_nil))) do_none (do_some (de_name (pv 3))))) da_nil))) da_nil)))))
theorem sc_is_letter : FnScope ["value"] ["value"] (defScope d_is_letter.st) := ⟨rfl, rfl, rfl, by decide +kernel, rfl, by decide +kernel, by decide +kernel⟩
theorem ok_is_letter (Z : SaysH K mg) : ∃ fd : FuncData, PySem.W.keepIn K (.ref (d_is_letter.at_ K)) = true ∧ (Binds K fd ["value"] []) ∧ FnOk P w K mg base (L2.CX P w) 1 (d_is_letter.at_ K) fd ["value"] (spF (CT K) 1 F_is_letter) := by
  have sc := sc_is_letter
  obtain ⟨fd, FF⟩ := Z.c.def_ 3 (d := d_is_letter) rfl
  refine ⟨fd, FF.kp, (FF.bindsN fun _ _ _ _ _ _ us hl => match us, hl with | [_], _ => rfl), fn_okD (N := ["value"]) FF sc rfl rfl fun cdv A outer s H E hr ps tk po => ?_⟩
  exact (dss_one (ds_ret (de_and (de_isi (de_name (pv 0)) (Z.free 45) (Z.free 56) (isG_tab (all7 rfl rfl rfl rfl rfl rfl rfl) (fun _ h => nomatch h))) (de_and (de_eq hr (de_len (Z.free 0) (da_cons (de_name (pv 0)) da_nil)) de_int) (de_one (de_chain op_leA op_leA g_le g_le (de_str (l := [97])) (de_name (pv 0)) (de_str (l := [122]))))))))
theorem sc_are_ascending : FnScope ["items", "one", "other"] ["items"] (defScope d_are_ascending.st) := ⟨rfl, rfl, rfl, by decide +kernel, rfl, by decide +kernel, by decide +kernel⟩
theorem ok_are_ascending (Z : SaysH K mg) : ∃ fd : FuncData, PySem.W.keepIn K (.ref (d_are_ascending.at_ K)) = true ∧ (Binds K fd ["items"] []) ∧ FnOk P w K mg base (L2.CX P w) 1 (d_are_ascending.at_ K) fd ["items"] (spF (CT K) 1 F_are_ascending) := by
  have sc := sc_are_ascending
  obtain ⟨fd, FF⟩ := Z.c.def_ 4 (d := d_are_ascending) rfl
  refine ⟨fd, FF.kp, (FF.bindsN fun _ _ _ _ _ _ us hl => match us, hl with | [_], _ => rfl), fn_okD (N := ["items", "one", "other"]) FF sc rfl rfl fun cdv A outer s H E hr ps tk po => ?_⟩
  exact (dss_one (ds_ret (de_all (Z.free 58) (da_cons (de_fresh (dn_lc sc.nd (di_zip (da_cons (de_name (pv 0)) (da_cons (de_sl (de_name (pv 0)) (do_some de_int) do_none) da_nil)) (Z.free 33)) (own := [("one", 1), ("other", 2)]) (blkOk_by (by rfl)) (fun _ _ _ _ _ => (dg_tup (dgs_cons (dg_name sc.nd) (dgs_cons (dg_name sc.nd) dgs_nil)))) (fun _ _ _ _ _ => dts_nil) (fun _ _ _ _ _ => (de_lt (de_name (pv 1)) (de_name (pv 2)))))) da_nil))))
theorem sc_are_letters : FnScope ["value", "sign"] ["value"] (defScope d_are_letters.st) := ⟨rfl, rfl, rfl, by decide +kernel, rfl, by decide +kernel, by decide +kernel⟩
theorem ok_are_letters (Z : SaysH K mg) : ∃ fd : FuncData, PySem.W.keepIn K (.ref (d_are_letters.at_ K)) = true ∧ (Binds K fd ["value"] []) ∧ FnOk P w K mg base (L2.CX P w) 2 (d_are_letters.at_ K) fd ["value"] (spF (CT K) 1 F_are_letters) := by
  have sc := sc_are_letters
  obtain ⟨fd_is_letter, kp_is_letter, b_is_letter, FO_is_letter⟩ := ok_is_letter (P := P) (w := w) (base := base) Z
  obtain ⟨fd_are_ascending, kp_are_ascending, b_are_ascending, FO_are_ascending⟩ := ok_are_ascending (P := P) (w := w) (base := base) Z
  obtain ⟨fd, FF⟩ := Z.c.def_ 5 (d := d_are_letters) rfl
  refine ⟨fd, FF.kp, (FF.bindsN fun _ _ _ _ _ _ us hl => match us, hl with | [_], _ => rfl), fn_okD (N := ["value", "sign"]) FF sc rfl rfl fun cdv A outer s H E hr ps tk po => ?_⟩
  exact (dss_one (ds_ret (de_and (de_isi (de_name (pv 0)) (Z.free 45) (Z.free 56) (isG_tab (all7 rfl rfl rfl rfl rfl rfl rfl) (fun _ h => nomatch h))) (de_and (de_all (Z.free 58) (da_cons (de_fresh (dn_lc sc.nd (di_any (de_name (pv 0))) (own := [("sign", 1)]) (blkOk_by (by rfl)) (fun _ _ _ _ _ => (dg_name sc.nd)) (fun _ _ _ _ _ => dts_nil) (fun _ _ _ _ _ => (de_call FO_is_letter (hr.mono (by omega)) (Z.glo 57) kp_is_letter b_is_letter passL (da_cons (de_name (pv 1)) da_nil) (lenA_cons lenA_nil))))) da_nil)) (de_one (de_call FO_are_ascending (hr.mono (by omega)) (Z.glo 59) kp_are_ascending b_are_ascending ps (da_cons (de_name (pv 0)) da_nil) (lenA_cons lenA_nil)))))))
theorem sc_pairs_of : FnScope ["letters", "at", "one", "other"] ["letters"] (defScope d_pairs_of.st) := ⟨rfl, rfl, rfl, by decide +kernel, rfl, by decide +kernel, by decide +kernel⟩
theorem ok_pairs_of (Z : SaysH K mg) : ∃ fd : FuncData, PySem.W.keepIn K (.ref (d_pairs_of.at_ K)) = true ∧ (Binds K fd ["letters"] []) ∧ FnOk P w K mg base (L2.CX P w) 1 (d_pairs_of.at_ K) fd ["letters"] (spF (CT K) 1 F_pairs_of) := by
  have sc := sc_pairs_of
  obtain ⟨fd, FF⟩ := Z.c.def_ 6 (d := d_pairs_of) rfl
  refine ⟨fd, FF.kp, (FF.bindsN fun _ _ _ _ _ _ us hl => match us, hl with | [_], _ => rfl), fn_okD (N := ["letters", "at", "one", "other"]) FF sc rfl rfl fun cdv A outer s H E hr ps tk po => ?_⟩
  exact (dss_one (ds_ret (de_fresh (dn_lc2 sc.nd (di_enum (da_cons (de_name (pv 0)) da_nil) (Z.free 63)) (own := [("at", 1), ("one", 2), ("other", 3)]) (vs1 := [3]) (blkOk_by (by rfl)) (fun _ _ _ _ _ => (dg_tup (dgs_cons (dg_name sc.nd) (dgs_cons (dg_name sc.nd) dgs_nil)))) (fun _ _ _ _ _ => dts_nil) (fun _ _ _ _ _ => (di_any (de_sl (de_name (pv 0)) (do_some (de_add (de_name (pv 1)) de_int)) do_none))) (fun _ _ _ _ _ => (dg_name sc.nd)) (fun _ _ _ _ _ => dts_nil) (fun _ _ _ _ _ => (de_add (de_name (pv 2)) (de_name (pv 3))))))))
theorem sc_are_conflicts : FnScope ["letters", "value", "pairs", "one"] ["letters", "value"] (defScope d_are_conflicts.st) := ⟨rfl, rfl, rfl, by decide +kernel, rfl, by decide +kernel, by decide +kernel⟩
theorem ok_are_conflicts (Z : SaysH K mg) : ∃ fd : FuncData, PySem.W.keepIn K (.ref (d_are_conflicts.at_ K)) = true ∧ (Binds K fd ["letters", "value"] []) ∧ FnOk P w K mg base (L2.CX P w) 2 (d_are_conflicts.at_ K) fd ["letters", "value"] (spF (CT K) 2 F_are_conflicts) := by
  have sc := sc_are_conflicts
  obtain ⟨fd_pairs_of, kp_pairs_of, b_pairs_of, FO_pairs_of⟩ := ok_pairs_of (P := P) (w := w) (base := base) Z
  obtain ⟨fd_are_ascending, kp_are_ascending, b_are_ascending, FO_are_ascending⟩ := ok_are_ascending (P := P) (w := w) (base := base) Z
  obtain ⟨fd, FF⟩ := Z.c.def_ 7 (d := d_are_conflicts) rfl
  refine ⟨fd, FF.kp, (FF.bindsN fun _ _ _ _ _ _ us hl => match us, hl with | [_, _], _ => rfl), fn_okD (N := ["letters", "value", "pairs", "one"]) FF sc rfl rfl fun cdv A outer s H E hr ps tk po => ?_⟩
  exact (dss_cons (ds_if (dt_not (dt_truth (de_isi (de_name (pv 1)) (Z.free 45) (Z.free 39) (isG_tab (all7 rfl rfl rfl rfl rfl rfl rfl) (fun _ h => nomatch h))))) (dss_one (ds_ret de_bl)) dss_nil)
      (dss_cons (ds_set sc.nd (de_call FO_pairs_of (hr.mono (by omega)) (Z.glo 60) kp_pairs_of b_pairs_of ps (da_cons (de_name (pv 0)) da_nil) (lenA_cons lenA_nil)))
      (dss_one (ds_ret (de_and (de_all (Z.free 58) (da_cons (de_fresh (dn_lc sc.nd (di_any (de_name (pv 1))) (own := [("one", 3)]) (blkOk_by (by rfl)) (fun _ _ _ _ _ => (dg_name sc.nd)) (fun _ _ _ _ _ => dts_nil) (fun _ _ _ _ _ => (de_and (de_isi (de_name (pv 3)) (Z.free 45) (Z.free 56) (isG_tab (all7 rfl rfl rfl rfl rfl rfl rfl) (fun _ h => nomatch h))) (de_one (de_in hr (de_name (pv 3)) (de_name (pv 2)))))))) da_nil)) (de_one (de_call FO_are_ascending (hr.mono (by omega)) (Z.glo 59) kp_are_ascending b_are_ascending ps (da_cons (de_name (pv 1)) da_nil) (lenA_cons lenA_nil))))))))
theorem sc_pair_of : FnScope ["one", "other"] ["one", "other"] (defScope d_pair_of.st) := ⟨rfl, rfl, rfl, by decide +kernel, rfl, by decide +kernel, by decide +kernel⟩
theorem ok_pair_of (Z : SaysH K mg) : ∃ fd : FuncData, PySem.W.keepIn K (.ref (d_pair_of.at_ K)) = true ∧ (Binds K fd ["one", "other"] []) ∧ FnOk P w K mg base (L2.CX P w) 1 (d_pair_of.at_ K) fd ["one", "other"] (spF (CT K) 2 F_pair_of) := by
  have sc := sc_pair_of
  obtain ⟨fd, FF⟩ := Z.c.def_ 8 (d := d_pair_of) rfl
  refine ⟨fd, FF.kp, (FF.bindsN fun _ _ _ _ _ _ us hl => match us, hl with | [_, _], _ => rfl), fn_okD (N := ["one", "other"]) FF sc rfl rfl fun cdv A outer s H E hr ps tk po => ?_⟩
  exact (dss_one (ds_ret (de_if (dt_lt (de_name (pv 0)) (de_name (pv 1))) (de_add (de_name (pv 0)) (de_name (pv 1))) (de_add (de_name (pv 1)) (de_name (pv 0))))))
theorem sc_close_row : FnScope ["letters", "conflicts", "letter", "other"] ["letters", "conflicts", "letter"] (defScope d_close_row.st) := ⟨rfl, rfl, rfl, by decide +kernel, rfl, by decide +kernel, by decide +kernel⟩
theorem ok_close_row (Z : SaysH K mg) : ∃ fd : FuncData, PySem.W.keepIn K (.ref (d_close_row.at_ K)) = true ∧ (Binds K fd ["letters", "conflicts", "letter"] []) ∧ FnOk P w K mg base (L2.CX P w) 2 (d_close_row.at_ K) fd ["letters", "conflicts", "letter"] (spF (CT K) 3 F_close_row) := by
  have sc := sc_close_row
  obtain ⟨fd_pair_of, kp_pair_of, b_pair_of, FO_pair_of⟩ := ok_pair_of (P := P) (w := w) (base := base) Z
  obtain ⟨fd, FF⟩ := Z.c.def_ 9 (d := d_close_row) rfl
  refine ⟨fd, FF.kp, (FF.bindsN fun _ _ _ _ _ _ us hl => match us, hl with | [_, _, _], _ => rfl), fn_okD (N := ["letters", "conflicts", "letter", "other"]) FF sc rfl rfl fun cdv A outer s H E hr ps tk po => ?_⟩
  exact (dss_one (ds_ret (de_join (de_str (l := [])) (da_cons (de_fresh (dn_lc sc.nd (di_any (de_name (pv 0))) (own := [("other", 3)]) (blkOk_by (by rfl)) (fun _ _ _ _ _ => (dg_name sc.nd)) (fun _ _ _ _ _ => (dts_one (dw_pt (dw_or (dt_eq hr (de_name (pv 3)) (de_name (pv 2))) (dw_or1 (dt_in hr (de_call FO_pair_of (hr.mono (by omega)) (Z.glo 61) kp_pair_of b_pair_of passL (da_cons (de_name (pv 2)) (da_cons (de_name (pv 3)) da_nil)) (lenA_cons (lenA_cons lenA_nil))) (de_name (pv 1)))))))) (fun _ _ _ _ _ => (de_name (pv 3))))) da_nil))))
theorem sc_Web___init__ : FnScope ["self", "letters", "conflicts", "letter"] ["self", "letters", "conflicts"] (defScope d_Web___init__.st) := ⟨rfl, rfl, rfl, by decide +kernel, rfl, by decide +kernel, by decide +kernel⟩
theorem ok_Web___init__ (Z : SaysH K mg) : ∃ fd : FuncData, PySem.W.keepIn K (.ref (d_Web___init__.at_ K)) = true ∧ (Binds K fd ["self", "letters", "conflicts"] [] ∧ ((∀ I, Reps (CT K) I ([.tup []] : List D) ([.ref (dfAt K (He.ma K (He.ga K "Web") "__init__") 1)] : List V)) ∧ ∃ ds, Vals ([.ref (dfAt K (He.ma K (He.ga K "Web") "__init__") 1)] : List V) ds ∧ Binds K fd ["self", "letters", "conflicts"] ds) ∧ ((∀ I, Reps (CT K) I ([.str [], .tup []] : List D) ([.str "", .ref (dfAt K (He.ma K (He.ga K "Web") "__init__") 1)] : List V)) ∧ ∃ ds, Vals ([.str "", .ref (dfAt K (He.ma K (He.ga K "Web") "__init__") 1)] : List V) ds ∧ Binds K fd ["self", "letters", "conflicts"] ds)) ∧ FnOk P w K mg base (L2.CX P w) 3 (d_Web___init__.at_ K) fd ["self", "letters", "conflicts"] (spF (CT K) 3 F_Web___init__) := by
  have sc := sc_Web___init__
  obtain ⟨fd_are_letters, kp_are_letters, b_are_letters, FO_are_letters⟩ := ok_are_letters (P := P) (w := w) (base := base) Z
  obtain ⟨fd_are_conflicts, kp_are_conflicts, b_are_conflicts, FO_are_conflicts⟩ := ok_are_conflicts (P := P) (w := w) (base := base) Z
  obtain ⟨fd_close_row, kp_close_row, b_close_row, FO_close_row⟩ := ok_close_row (P := P) (w := w) (base := base) Z
  obtain ⟨fd, FF⟩ := Z.c.def_ 10 (d := d_Web___init__) rfl
  refine ⟨fd, FF.kp, ⟨(match (FunD.binds1 (ps := ["self", "letters", "conflicts"]) FF 3 2 (by simp [d_Web___init__]) rfl fun T kV doc pm an cdv ct us its h1 h2 => match us, its, h1, h2 with
      | [u0, u1, u2], [i0, i1], _, _ => ⟨_, rfl, rfl⟩) with
      | ⟨_, .nil, b⟩ => b), ⟨fun I => (.cons (.oftup (Z.tup0 66 (a := fun K => dfAt K (He.ma K (He.ga K "Web") "__init__") 1) rfl _) .nil) .nil), (FunD.binds1 (ps := ["self", "letters", "conflicts"]) FF 2 1 (by simp [d_Web___init__]) rfl fun T kV doc pm an cdv ct us its h1 h2 => match us, its, h1, h2 with
      | [u0, u1], [i0, i1], _, _ => ⟨_, rfl, rfl⟩)⟩, ⟨fun I => (.cons (show Rep _ _ (.str []) (.str "") by rw [show ("" : Str) = mkS [] by decide +kernel]; exact .ofstr) (.cons (.oftup (Z.tup0 66 (a := fun K => dfAt K (He.ma K (He.ga K "Web") "__init__") 1) rfl _) .nil) .nil)), (FunD.binds1 (ps := ["self", "letters", "conflicts"]) FF 1 0 (by simp [d_Web___init__]) rfl fun T kV doc pm an cdv ct us its h1 h2 => match us, its, h1, h2 with
      | [u0], [i0, i1], _, _ => ⟨_, rfl, rfl⟩)⟩⟩, fn_okD (N := ["self", "letters", "conflicts", "letter"]) FF sc rfl rfl fun cdv A outer s H E hr ps tk po => ?_⟩
  exact (dss_cons (ds_if (dw_pt (dw_or (dt_not (dt_truth (de_call FO_are_letters (hr.mono (by omega)) (Z.glo 23) kp_are_letters b_are_letters ps (da_cons (de_name (pv 1)) da_nil) (lenA_cons lenA_nil)))) (dw_or1 (dt_gt (de_len (Z.free 0) (da_cons (de_name (pv 1)) da_nil)) (de_c (v := .int (10)) (pe_glob rfl (Z.int 24).choose_spec ⟨_, rfl⟩) fun _ => .ofint))))) dss_off dss_nil)
      (dss_cons (ds_if (dt_not (dt_truth (de_call FO_are_conflicts (hr.mono (by omega)) (Z.glo 25) kp_are_conflicts b_are_conflicts ps (da_cons (de_name (pv 1)) (da_cons (de_name (pv 2)) da_nil)) (lenA_cons (lenA_cons lenA_nil))))) dss_off dss_nil)
      (dss_cons (ds_stoSl (c := 0) (de_name (pv 0)) (de_name (pv 1)) (Z.scls 19) (Z.slot 26))
      (dss_cons (ds_stoSl (c := 0) (de_name (pv 0)) (de_name (pv 2)) (Z.scls 19) (Z.slot 27))
      (dss_one (ds_stoSl (c := 0) (de_name (pv 0)) (de_dict (dn_dc sc.nd (di_any (de_name (pv 1))) (own := [("letter", 3)]) (blkOk_by (by rfl)) (fun _ _ _ _ _ => (dg_name sc.nd)) (fun _ _ _ _ _ => dts_nil) (fun _ _ _ _ _ => (de_name (pv 3))) (fun _ _ _ _ _ => (de_call FO_close_row (hr.mono (by omega)) (Z.glo 28) kp_close_row b_close_row passL (da_cons (de_name (pv 1)) (da_cons (de_name (pv 2)) (da_cons (de_name (pv 3)) da_nil))) (lenA_cons (lenA_cons (lenA_cons lenA_nil))))))) (Z.scls 19) (Z.slot 29)))))))
theorem sc__law_pairs : FnScope ["letters", "found", "at", "one", "other"] ["letters"] (defScope d__law_pairs.st) := ⟨rfl, rfl, rfl, by decide +kernel, rfl, by decide +kernel, by decide +kernel⟩
theorem ok__law_pairs (Z : SaysH K mg) : ∃ fd : FuncData, PySem.W.keepIn K (.ref (d__law_pairs.at_ K)) = true ∧ (Binds K fd ["letters"] []) ∧ FnOk P w K mg base (L2.CX P w) 1 (d__law_pairs.at_ K) fd ["letters"] (spF (CT K) 1 F__law_pairs) := by
  have sc := sc__law_pairs
  obtain ⟨fd, FF⟩ := Z.c.def_ 11 (d := d__law_pairs) rfl
  refine ⟨fd, FF.kp, (FF.bindsN fun _ _ _ _ _ _ us hl => match us, hl with | [_], _ => rfl), fn_okD (N := ["letters", "found", "at", "one", "other"]) FF sc rfl rfl fun cdv A outer s H E hr ps tk po => ?_⟩
  exact (dss_cons (ds_setN sc.nd (dn_lst da_nil))
      (dss_cons (ds_for (di_enum (da_cons (de_name (pv 0)) da_nil) (Z.free 63)) (dg_tup (dgs_cons (dg_name sc.nd) (dgs_cons (dg_name sc.nd) dgs_nil))) (dss_one (ds_expr (de_mu PySem.F.plainAttrs_list PySem.F.slot_list_extend PySem.F.type_list_extend mt_extend g_ext (de_name (pv 1)) (da_cons (de_fresh (dn_lc sc.nd (di_any (de_sl (de_name (pv 0)) (do_some (de_add (de_name (pv 2)) de_int)) do_none)) (own := [("other", 4)]) (blkOk_by (by rfl)) (fun _ _ _ _ _ => (dg_name sc.nd)) (fun _ _ _ _ _ => dts_nil) (fun _ _ _ _ _ => (de_add (de_name (pv 3)) (de_name (pv 4)))))) da_nil)))) po)
      (dss_one (ds_ret (de_name (pv 1))))))
theorem sc__law_some : FnScope ["dice", "items", "item"] ["dice", "items"] (defScope d__law_some.st) := ⟨rfl, rfl, rfl, by decide +kernel, rfl, by decide +kernel, by decide +kernel⟩
theorem ok__law_some (Z : SaysH K mg) : ∃ fd : FuncData, PySem.W.keepIn K (.ref (d__law_some.at_ K)) = true ∧ (Binds K fd ["dice", "items"] []) ∧ FnOk P w K mg base (L2.CX P w) 2 (d__law_some.at_ K) fd ["dice", "items"] (spF (CT K) 2 F__law_some) := by
  have sc := sc__law_some
  obtain ⟨fd__law_roll, kp__law_roll, b__law_roll, FO__law_roll⟩ := ok__law_roll (P := P) (w := w) (base := base) Z
  obtain ⟨fd, FF⟩ := Z.c.def_ 12 (d := d__law_some) rfl
  refine ⟨fd, FF.kp, (FF.bindsN fun _ _ _ _ _ _ us hl => match us, hl with | [_, _], _ => rfl), fn_okD (N := ["dice", "items", "item"]) FF sc rfl rfl fun cdv A outer s H E hr ps tk po => ?_⟩
  exact (dss_one (ds_ret (de_fresh (dn_lc sc.nd (di_any (de_name (pv 1))) (own := [("item", 2)]) (blkOk_by (by rfl)) (fun _ _ _ _ _ => (dg_name sc.nd)) (fun _ _ _ _ _ => (dts_one (dt_eq hr (de_callI FO__law_roll (hr.mono (by omega)) (Z.glo 13) kp__law_roll b__law_roll passL (da_cons (de_name (pv 0)) (da_cons de_int da_nil)) (lenA_cons (lenA_cons lenA_nil))) de_int))) (fun _ _ _ _ _ => (de_name (pv 2)))))))
theorem sc__law_conflicts : FnScope ["dice", "letters", "pairs", "way", "order", "many", "pair"] ["dice", "letters"] (defScope d__law_conflicts.st) := ⟨rfl, rfl, rfl, by decide +kernel, rfl, by decide +kernel, by decide +kernel⟩
theorem ok__law_conflicts (Z : SaysH K mg) : ∃ fd : FuncData, PySem.W.keepIn K (.ref (d__law_conflicts.at_ K)) = true ∧ (Binds K fd ["dice", "letters"] []) ∧ FnOk P w K mg base (L2.CX P w) 3 (d__law_conflicts.at_ K) fd ["dice", "letters"] (spF (CT K) 2 F__law_conflicts) := by
  have sc := sc__law_conflicts
  obtain ⟨fd__law_pairs, kp__law_pairs, b__law_pairs, FO__law_pairs⟩ := ok__law_pairs (P := P) (w := w) (base := base) Z
  obtain ⟨fd__law_roll, kp__law_roll, b__law_roll, FO__law_roll⟩ := ok__law_roll (P := P) (w := w) (base := base) Z
  obtain ⟨fd__law_some, kp__law_some, b__law_some, FO__law_some⟩ := ok__law_some (P := P) (w := w) (base := base) Z
  obtain ⟨fd__law_mixed, kp__law_mixed, b__law_mixed, FO__law_mixed⟩ := ok__law_mixed (P := P) (w := w) (base := base) Z
  obtain ⟨fd, FF⟩ := Z.c.def_ 13 (d := d__law_conflicts) rfl
  refine ⟨fd, FF.kp, (FF.bindsN fun _ _ _ _ _ _ us hl => match us, hl with | [_, _], _ => rfl), fn_okD (N := ["dice", "letters", "pairs", "way", "order", "many", "pair"]) FF sc rfl rfl fun cdv A outer s H E hr ps tk po => ?_⟩
  exact (dss_cons (ds_set sc.nd (de_call FO__law_pairs (hr.mono (by omega)) (Z.glo 37) kp__law_pairs b__law_pairs ps (da_cons (de_name (pv 1)) da_nil) (lenA_cons lenA_nil)))
      (dss_cons (ds_set sc.nd (de_callI FO__law_roll (hr.mono (by omega)) (Z.glo 13) kp__law_roll b__law_roll ps (da_cons (de_name (pv 0)) (da_cons de_int da_nil)) (lenA_cons (lenA_cons lenA_nil))))
      (dss_cons (ds_if (dt_eq hr (de_name (pv 3)) de_int) (dss_one (ds_ret (de_tuple (Z.free 39) (da_cons (de_callI FO__law_some (hr.mono (by omega)) (Z.glo 38) kp__law_some b__law_some ps (da_cons (de_name (pv 0)) (da_cons (de_name (pv 2)) da_nil)) (lenA_cons (lenA_cons lenA_nil))) da_nil)))) dss_nil)
      (dss_cons (ds_if (dt_eq hr (de_name (pv 3)) de_int) (dss_one (ds_ret (de_tuple (Z.free 39) (da_cons (de_fresh (dn_lc sc.nd (di_any (de_name (pv 2))) (own := [("pair", 6)]) (blkOk_by (by rfl)) (fun _ _ _ _ _ => (dg_name sc.nd)) (fun _ _ _ _ _ => (dts_one (dt_gt (de_callI FO__law_roll (hr.mono (by omega)) (Z.glo 13) kp__law_roll b__law_roll passL (da_cons (de_name (pv 0)) (da_cons de_int da_nil)) (lenA_cons (lenA_cons lenA_nil))) de_int))) (fun _ _ _ _ _ => (de_name (pv 6))))) da_nil)))) dss_nil)
      (dss_cons (ds_if (dt_lt (de_len (Z.free 0) (da_cons (de_name (pv 2)) da_nil)) de_int) (dss_one (ds_ret (de_tuple (Z.free 39) (da_cons (de_name (pv 2)) da_nil)))) dss_nil)
      (dss_cons (ds_set sc.nd (de_callI FO__law_mixed (hr.mono (by omega)) (Z.glo 34) kp__law_mixed b__law_mixed ps (da_cons (de_name (pv 0)) (da_cons (de_name (pv 2)) da_nil)) (lenA_cons (lenA_cons lenA_nil))))
      (dss_cons (ds_set sc.nd (de_add de_int (de_callI FO__law_roll (hr.mono (by omega)) (Z.glo 13) kp__law_roll b__law_roll ps (da_cons (de_name (pv 0)) (da_cons (de_sub (de_len (Z.free 0) (da_cons (de_name (pv 2)) da_nil)) de_int) da_nil)) (lenA_cons (lenA_cons lenA_nil)))))
      (dss_one (ds_ret (de_tuple (Z.free 39) (da_cons (de_fresh (dn_sorted (Z.free 36) (da_cons (de_fresh (dn_sl (de_name (pv 4)) do_none (do_some (de_name (pv 5))))) da_nil))) da_nil)))))))))))
theorem sc_Web_letters : FnScope ["self"] ["self"] (defScope d_Web_letters.st) := ⟨rfl, rfl, rfl, by decide +kernel, rfl, by decide +kernel, by decide +kernel⟩
theorem ok_Web_letters (Z : SaysH K mg) : ∃ fd : FuncData, PySem.W.keepIn K (.ref (d_Web_letters.at_ K)) = true ∧ (Binds K fd ["self"] []) ∧ FnOk P w K mg base (L2.CX P w) 1 (d_Web_letters.at_ K) fd ["self"] (spF (CT K) 1 F_Web_letters) := by
  have sc := sc_Web_letters
  obtain ⟨fd, FF⟩ := Z.c.def_ 14 (d := d_Web_letters) rfl
  refine ⟨fd, FF.kp, (FF.bindsN fun _ _ _ _ _ _ us hl => match us, hl with | [_], _ => rfl), fn_okD (N := ["self"]) FF sc rfl rfl fun cdv A outer s H E hr ps tk po => ?_⟩
  exact (dss_one (ds_ret (de_slot (c := 0) (de_name (pv 0)) (Z.scls 19) (Z.slot 26))))
theorem sc_Web_conflicts : FnScope ["self"] ["self"] (defScope d_Web_conflicts.st) := ⟨rfl, rfl, rfl, by decide +kernel, rfl, by decide +kernel, by decide +kernel⟩
theorem ok_Web_conflicts (Z : SaysH K mg) : ∃ fd : FuncData, PySem.W.keepIn K (.ref (d_Web_conflicts.at_ K)) = true ∧ (Binds K fd ["self"] []) ∧ FnOk P w K mg base (L2.CX P w) 1 (d_Web_conflicts.at_ K) fd ["self"] (spF (CT K) 1 F_Web_conflicts) := by
  have sc := sc_Web_conflicts
  obtain ⟨fd, FF⟩ := Z.c.def_ 15 (d := d_Web_conflicts) rfl
  refine ⟨fd, FF.kp, (FF.bindsN fun _ _ _ _ _ _ us hl => match us, hl with | [_], _ => rfl), fn_okD (N := ["self"]) FF sc rfl rfl fun cdv A outer s H E hr ps tk po => ?_⟩
  exact (dss_one (ds_ret (de_slot (c := 0) (de_name (pv 0)) (Z.scls 19) (Z.slot 27))))
theorem sc__law_planted : FnScope ["dice", "web", "new", "names", "pairs", "pair"] ["dice", "web"] (defScope d__law_planted.st) := ⟨rfl, rfl, rfl, by decide +kernel, rfl, by decide +kernel, by decide +kernel⟩
theorem ok__law_planted (Z : SaysH K mg) : ∃ fd : FuncData, PySem.W.keepIn K (.ref (d__law_planted.at_ K)) = true ∧ (Binds K fd ["dice", "web"] []) ∧ FnOk P w K mg base (L2.CX P w) 5 (d__law_planted.at_ K) fd ["dice", "web"] (spF (CT K) 2 F__law_planted) := by
  have sc := sc__law_planted
  obtain ⟨fd__law_mixed, kp__law_mixed, b__law_mixed, FO__law_mixed⟩ := ok__law_mixed (P := P) (w := w) (base := base) Z
  obtain ⟨fd_Web_letters, kp_Web_letters, b_Web_letters, FO_Web_letters⟩ := ok_Web_letters (P := P) (w := w) (base := base) Z
  obtain ⟨fd__law_roll, kp__law_roll, b__law_roll, FO__law_roll⟩ := ok__law_roll (P := P) (w := w) (base := base) Z
  obtain ⟨fd_Web_conflicts, kp_Web_conflicts, b_Web_conflicts, FO_Web_conflicts⟩ := ok_Web_conflicts (P := P) (w := w) (base := base) Z
  obtain ⟨fd_Web___init__, kp_Web___init__, ⟨b_Web___init__, b_Web___init___1, b_Web___init___2⟩, FO_Web___init__⟩ := ok_Web___init__ (P := P) (w := w) (base := base) Z
  obtain ⟨fd, FF⟩ := Z.c.def_ 16 (d := d__law_planted) rfl
  refine ⟨fd, FF.kp, (FF.bindsN fun _ _ _ _ _ _ us hl => match us, hl with | [_, _], _ => rfl), fn_okD (N := ["dice", "web", "new", "names", "pairs", "pair"]) FF sc rfl rfl fun cdv A outer s H E hr ps tk po => ?_⟩
  exact (dss_cons (ds_set sc.nd (de_fresh (dn_sl (de_callI FO__law_mixed (hr.mono (by omega)) (Z.glo 34) kp__law_mixed b__law_mixed ps (da_cons (de_name (pv 0)) (da_cons (de_fresh (dn_list (Z.free 35) (da_cons (de_str (l := [97, 98, 99, 100, 101, 102, 103, 104, 105, 106, 107, 108, 109, 110, 111, 112, 113, 114, 115, 116, 117, 118, 119, 120, 121, 122])) da_nil))) da_nil)) (lenA_cons (lenA_cons lenA_nil))) do_none (do_some (de_len (Z.free 0) (da_cons (de_prop (c := 0) FO_Web_letters b_Web_letters (de_name (pv 1)) (Z.scls 19) (Z.prop 18).at_ (Z.prop 18).get (Z.prop 18).tk (Z.prop 18).rc (hr.mono (by omega)) noCX) da_nil))))))
      (dss_cons (ds_if (dt_eq hr (de_callI FO__law_roll (hr.mono (by omega)) (Z.glo 13) kp__law_roll b__law_roll ps (da_cons (de_name (pv 0)) (da_cons de_int da_nil)) (lenA_cons (lenA_cons lenA_nil))) de_int) (dss_one (ds_set sc.nd (de_callI FO__law_mixed (hr.mono (by omega)) (Z.glo 34) kp__law_mixed b__law_mixed ps (da_cons (de_name (pv 0)) (da_cons (de_fresh (dn_list (Z.free 35) (da_cons (de_prop (c := 0) FO_Web_letters b_Web_letters (de_name (pv 1)) (Z.scls 19) (Z.prop 18).at_ (Z.prop 18).get (Z.prop 18).tk (Z.prop 18).rc (hr.mono (by omega)) noCX) da_nil))) da_nil)) (lenA_cons (lenA_cons lenA_nil))))) dss_nil)
      (dss_cons (ds_set sc.nd (de_dict (dn_dzip (Z.free 32) (Z.free 33) (da_cons (de_prop (c := 0) FO_Web_letters b_Web_letters (de_name (pv 1)) (Z.scls 19) (Z.prop 18).at_ (Z.prop 18).get (Z.prop 18).tk (Z.prop 18).rc (hr.mono (by omega)) noCX) (da_cons (de_name (pv 2)) da_nil)))))
      (dss_cons (by first | exact ds_set sc.nd (de_fresh (dn_lc sc.nd (di_any (de_prop (c := 0) FO_Web_conflicts b_Web_conflicts (de_name (pv 1)) (Z.scls 19) (Z.prop 20).at_ (Z.prop 20).get (Z.prop 20).tk (Z.prop 20).rc (hr.mono (by omega)) noCX)) (own := [("pair", 5)]) (blkOk_by (by rfl)) (fun _ _ _ _ _ => (dg_name sc.nd)) (fun _ _ _ _ _ => dts_nil) (fun _ _ _ _ _ => (de_fresh (dn_sorted (Z.free 36) (da_cons (de_fresh (dn_lst (da_cons (de_ix hr (de_name (pv 3)) (de_ix hr (de_name (pv 5)) de_int)) (da_cons (de_ix hr (de_name (pv 3)) (de_ix hr (de_name (pv 5)) de_int)) da_nil)))) da_nil)))))) | exact ds_setLc sc.nd (di_any (de_prop (c := 0) FO_Web_conflicts b_Web_conflicts (de_name (pv 1)) (Z.scls 19) (Z.prop 20).at_ (Z.prop 20).get (Z.prop 20).tk (Z.prop 20).rc (hr.mono (by omega)) noCX)) (own := [("pair", 5)]) (blkOk_by (by rfl)) (fun _ _ _ _ _ => (dg_name sc.nd)) (fun _ _ _ _ _ => dts_nil) (fun _ _ _ _ _ => (de_fresh (dn_sorted (Z.free 36) (da_cons (de_fresh (dn_lst (da_cons (de_ix hr (de_name (pv 3)) (de_ix hr (de_name (pv 5)) de_int)) (da_cons (de_ix hr (de_name (pv 3)) (de_ix hr (de_name (pv 5)) de_int)) da_nil)))) da_nil)))) (by first | rfl | decide +kernel))
      (dss_one (ds_ret (de_tup (da_cons (de_make (c := 0) FO_Web___init__ (Z.mkr 8 9) (hr.mono (by omega)) (Z.glo 7) b_Web___init__ .nil (fun _ => .nil) ps (da_cons (de_join (de_str (l := [])) (da_cons (de_fresh (dn_sorted (Z.free 36) (da_cons (de_name (pv 2)) da_nil))) da_nil)) (da_cons (de_tuple (Z.free 39) (da_cons (de_fresh (dn_sorted (Z.free 36) (da_cons (de_fresh (dn_lc sc.nd (di_any (de_name (pv 4))) (own := [("pair", 5)]) (blkOk_by (by rfl)) (fun _ _ _ _ _ => (dg_name sc.nd)) (fun _ _ _ _ _ => dts_nil) (fun _ _ _ _ _ => (de_join (de_str (l := [])) (da_cons (de_name (pv 5)) da_nil))))) da_nil))) da_nil)) da_nil)) (lenA_cons (lenA_cons lenA_nil))) (da_cons (de_join (de_str (l := [])) (da_cons (de_name (pv 2)) da_nil)) da_nil)))))))))
theorem sc_Web_loose : FnScope ["self", "pair"] ["self"] (defScope d_Web_loose.st) := ⟨rfl, rfl, rfl, by decide +kernel, rfl, by decide +kernel, by decide +kernel⟩
theorem ok_Web_loose (Z : SaysH K mg) : ∃ fd : FuncData, PySem.W.keepIn K (.ref (d_Web_loose.at_ K)) = true ∧ (Binds K fd ["self"] []) ∧ FnOk P w K mg base (L2.CX P w) 2 (d_Web_loose.at_ K) fd ["self"] (spF (CT K) 1 F_Web_loose) := by
  have sc := sc_Web_loose
  obtain ⟨fd_pairs_of, kp_pairs_of, b_pairs_of, FO_pairs_of⟩ := ok_pairs_of (P := P) (w := w) (base := base) Z
  obtain ⟨fd, FF⟩ := Z.c.def_ 17 (d := d_Web_loose) rfl
  refine ⟨fd, FF.kp, (FF.bindsN fun _ _ _ _ _ _ us hl => match us, hl with | [_], _ => rfl), fn_okD (N := ["self", "pair"]) FF sc rfl rfl fun cdv A outer s H E hr ps tk po => ?_⟩
  exact (dss_one (ds_ret (de_tuple (Z.free 39) (da_cons (de_fresh (dn_lc sc.nd (di_any (de_call FO_pairs_of (hr.mono (by omega)) (Z.glo 60) kp_pairs_of b_pairs_of ps (da_cons (de_slot (c := 0) (de_name (pv 0)) (Z.scls 19) (Z.slot 26)) da_nil) (lenA_cons lenA_nil))) (own := [("pair", 1)]) (blkOk_by (by rfl)) (fun _ _ _ _ _ => (dg_name sc.nd)) (fun _ _ _ _ _ => (dts_one (dt_notin hr (de_name (pv 1)) (de_slot (c := 0) (de_name (pv 0)) (Z.scls 19) (Z.slot 27))))) (fun _ _ _ _ _ => (de_name (pv 1))))) da_nil))))
theorem sc__law_bent : FnScope ["dice", "web", "left", "loose"] ["dice", "web"] (defScope d__law_bent.st) := ⟨rfl, rfl, rfl, by decide +kernel, rfl, by decide +kernel, by decide +kernel⟩
theorem ok__law_bent (Z : SaysH K mg) : ∃ fd : FuncData, PySem.W.keepIn K (.ref (d__law_bent.at_ K)) = true ∧ (Binds K fd ["dice", "web"] []) ∧ FnOk P w K mg base (L2.CX P w) 5 (d__law_bent.at_ K) fd ["dice", "web"] (spF (CT K) 2 F__law_bent) := by
  have sc := sc__law_bent
  obtain ⟨fd_Web_conflicts, kp_Web_conflicts, b_Web_conflicts, FO_Web_conflicts⟩ := ok_Web_conflicts (P := P) (w := w) (base := base) Z
  obtain ⟨fd_Web_loose, kp_Web_loose, b_Web_loose, FO_Web_loose⟩ := ok_Web_loose (P := P) (w := w) (base := base) Z
  obtain ⟨fd__law_roll, kp__law_roll, b__law_roll, FO__law_roll⟩ := ok__law_roll (P := P) (w := w) (base := base) Z
  obtain ⟨fd_Web___init__, kp_Web___init__, ⟨b_Web___init__, b_Web___init___1, b_Web___init___2⟩, FO_Web___init__⟩ := ok_Web___init__ (P := P) (w := w) (base := base) Z
  obtain ⟨fd_Web_letters, kp_Web_letters, b_Web_letters, FO_Web_letters⟩ := ok_Web_letters (P := P) (w := w) (base := base) Z
  obtain ⟨fd, FF⟩ := Z.c.def_ 18 (d := d__law_bent) rfl
  refine ⟨fd, FF.kp, (FF.bindsN fun _ _ _ _ _ _ us hl => match us, hl with | [_, _], _ => rfl), fn_okD (N := ["dice", "web", "left", "loose"]) FF sc rfl rfl fun cdv A outer s H E hr ps tk po => ?_⟩
  exact (dss_cons (ds_par sc.nd (dx_own (dn_list (Z.free 35) (da_cons (de_prop (c := 0) FO_Web_conflicts b_Web_conflicts (de_name (pv 1)) (Z.scls 19) (Z.prop 20).at_ (Z.prop 20).get (Z.prop 20).tk (Z.prop 20).rc (hr.mono (by omega)) noCX) da_nil))) (dx_own (dn_list (Z.free 35) (da_cons (de_prop (c := 0) FO_Web_loose b_Web_loose (de_name (pv 1)) (Z.scls 19) (Z.prop 40).at_ (Z.prop 40).get (Z.prop 40).tk (Z.prop 40).rc (hr.mono (by omega)) noCX) da_nil))) (by first | rfl | decide +kernel))
      (dss_cons (ds_if (dt_ne hr (de_name (pv 2)) (de_fresh (dn_lst da_nil))) (dss_one (ds_expr (de_mu PySem.F.plainAttrs_list PySem.F.slot_list_pop PySem.F.type_list_pop mt_popA g_pop (de_name (pv 2)) (da_cons (de_callI FO__law_roll (hr.mono (by omega)) (Z.glo 13) kp__law_roll b__law_roll ps (da_cons (de_name (pv 0)) (da_cons (de_len (Z.free 0) (da_cons (de_name (pv 2)) da_nil)) da_nil)) (lenA_cons (lenA_cons lenA_nil))) da_nil)))) dss_nil)
      (dss_cons (ds_if (dw_pt (dw_and (dt_ne hr (de_name (pv 3)) (de_fresh (dn_lst da_nil))) (dw_and1 (dt_gt (de_callI FO__law_roll (hr.mono (by omega)) (Z.glo 13) kp__law_roll b__law_roll ps (da_cons (de_name (pv 0)) (da_cons de_int da_nil)) (lenA_cons (lenA_cons lenA_nil))) de_int)))) (dss_one (ds_expr (de_mu PySem.F.plainAttrs_list PySem.F.slot_list_append PySem.F.type_list_append mt_append g_app (de_name (pv 2)) (da_cons (de_mu PySem.F.plainAttrs_list PySem.F.slot_list_pop PySem.F.type_list_pop mt_popA g_pop (de_name (pv 3)) (da_cons (de_callI FO__law_roll (hr.mono (by omega)) (Z.glo 13) kp__law_roll b__law_roll ps (da_cons (de_name (pv 0)) (da_cons (de_len (Z.free 0) (da_cons (de_name (pv 3)) da_nil)) da_nil)) (lenA_cons (lenA_cons lenA_nil))) da_nil)) da_nil)))) dss_nil)
      (dss_one (ds_ret (de_make (c := 0) FO_Web___init__ (Z.mkr 8 9) (hr.mono (by omega)) (Z.glo 7) b_Web___init__ .nil (fun _ => .nil) ps (da_cons (de_prop (c := 0) FO_Web_letters b_Web_letters (de_name (pv 1)) (Z.scls 19) (Z.prop 18).at_ (Z.prop 18).get (Z.prop 18).tk (Z.prop 18).rc (hr.mono (by omega)) noCX) (da_cons (de_tuple (Z.free 39) (da_cons (de_fresh (dn_sorted (Z.free 36) (da_cons (de_name (pv 2)) da_nil))) da_nil)) da_nil)) (lenA_cons (lenA_cons lenA_nil))))))))
theorem sc_require_web : FnScope ["value"] ["value"] (defScope d_require_web.st) := ⟨rfl, rfl, rfl, by decide +kernel, rfl, by decide +kernel, by decide +kernel⟩
theorem ok_require_web (Z : SaysH K mg) : ∃ fd : FuncData, PySem.W.keepIn K (.ref (d_require_web.at_ K)) = true ∧ (Binds K fd ["value"] []) ∧ FnOk P w K mg base (L2.CX P w) 1 (d_require_web.at_ K) fd ["value"] (spF (CT K) 1 F_require_web) := by
  have sc := sc_require_web
  obtain ⟨fd, FF⟩ := Z.c.def_ 19 (d := d_require_web) rfl
  refine ⟨fd, FF.kp, (FF.bindsN fun _ _ _ _ _ _ us hl => match us, hl with | [_], _ => rfl), fn_okD (N := ["value"]) FF sc rfl rfl fun cdv A outer s H E hr ps tk po => ?_⟩
  exact (dss_one (ds_if (dt_not (dt_truth (de_isiC (de_name (pv 0)) (Z.free 45) (Z.glo 7) (isG_tab (all7 (Z.kit 47 (v := fun _ => .type "NoneType")) (Z.kit 48 (v := fun _ => .type "bool")) (Z.kit 49 (v := fun _ => .type "int")) (Z.kit 50 (v := fun _ => .type "str")) (Z.kit 51 (v := fun _ => .type "tuple")) (Z.kit 52 (v := fun _ => .type "list")) (Z.kit 53 (v := fun _ => .type "dict"))) (all1 ⟨Z.kit 54 (v := fun K => .ref (He.ga K "Web")), Z.scls 19, Z.isi 55⟩))))) dss_off dss_nil))
theorem sc_can_become : FnScope ["one", "other", "letter", "new", "found", "pairs", "first", "second"] ["one", "other", "letter", "new", "found"] (defScope d_can_become.st) := ⟨rfl, rfl, rfl, by decide +kernel, rfl, by decide +kernel, by decide +kernel⟩
theorem ok_can_become (Z : SaysH K mg) : ∃ fd : FuncData, PySem.W.keepIn K (.ref (d_can_become.at_ K)) = true ∧ (Binds K fd ["one", "other", "letter", "new", "found"] []) ∧ FnOk P w K mg base (L2.CX P w) 1 (d_can_become.at_ K) fd ["one", "other", "letter", "new", "found"] (spF (CT K) 5 F_can_become) := by
  have sc := sc_can_become
  obtain ⟨fd, FF⟩ := Z.c.def_ 20 (d := d_can_become) rfl
  refine ⟨fd, FF.kp, (FF.bindsN fun _ _ _ _ _ _ us hl => match us, hl with | [_, _, _, _, _], _ => rfl), fn_okD (N := ["one", "other", "letter", "new", "found", "pairs", "first", "second"]) FF sc rfl rfl fun cdv A outer s H E hr ps tk po => ?_⟩
  exact (dss_cons (ds_if (dt_ne hr (de_len (Z.free 0) (da_cons (de_ix hr (de_slot (c := 0) (de_name (pv 0)) (Z.scls 19) (Z.slot 29)) (de_name (pv 2))) da_nil)) (de_len (Z.free 0) (da_cons (de_ix hr (de_slot (c := 0) (de_name (pv 1)) (Z.scls 19) (Z.slot 29)) (de_name (pv 3))) da_nil))) (dss_one (ds_ret de_bl)) dss_nil)
      (dss_zipall sc.nd (da_cons (de_slot (c := 0) (de_name (pv 0)) (Z.scls 19) (Z.slot 26)) (da_cons (de_name (pv 4)) da_nil)) (Z.free 33) (Z.free 58) (own := [("first", 6), ("second", 7)]) (blkOk_by (by rfl)) (fun _ _ _ _ _ => (dg_tup (dgs_cons (dg_name sc.nd) (dgs_cons (dg_name sc.nd) dgs_nil)))) (fun _ _ _ _ _ => (de_eq hr (de_in hr (de_name (pv 6)) (de_ix hr (de_slot (c := 0) (de_name (pv 0)) (Z.scls 19) (Z.slot 29)) (de_name (pv 2)))) (de_in hr (de_name (pv 7)) (de_ix hr (de_slot (c := 0) (de_name (pv 1)) (Z.scls 19) (Z.slot 29)) (de_name (pv 3))))))))
theorem sc_renamed_behind : FnScope ["one", "other", "found", "letter", "new", "whole"] ["one", "other", "found"] (defScope d_renamed_behind.st) := ⟨rfl, rfl, rfl, by decide +kernel, rfl, by decide +kernel, by decide +kernel⟩
theorem ok_renamed_behind (Z : SaysH K mg) (n : Nat) : ∃ fd : FuncData, PySem.W.keepIn K (.ref (d_renamed_behind.at_ K)) = true ∧ (Binds K fd ["one", "other", "found"] []) ∧ FnOk P w K mg base (L2.CX P w) (n + 2) (d_renamed_behind.at_ K) fd ["one", "other", "found"] (spF (CT K) 3 (F_renamed_behind n)) := by
  have sc := sc_renamed_behind
  obtain ⟨fd_can_become, kp_can_become, b_can_become, FO_can_become⟩ := ok_can_become (P := P) (w := w) (base := base) Z
  obtain ⟨fd, FF⟩ := Z.c.def_ 21 (d := d_renamed_behind) rfl
  refine ⟨fd, FF.kp, (FF.bindsN fun _ _ _ _ _ _ us hl => match us, hl with | [_, _, _], _ => rfl), ?_⟩
  have kpself := FF.kp
  have bself : Binds K fd ["one", "other", "found"] [] := (FF.bindsN fun _ _ _ _ _ _ us hl => match us, hl with | [_, _, _], _ => rfl)
  induction n with
  | zero => exact fn_okD (k := 0 + 1) (N := ["one", "other", "found", "letter", "new", "whole"]) FF sc rfl rfl fun cdv A outer s H E hr ps tk po => dss_off
  | succ n FOself =>
    refine fn_okD (k := n + 1 + 1) (N := ["one", "other", "found", "letter", "new", "whole"]) FF sc rfl rfl fun cdv A outer s H E hr ps tk po => ?_
    exact (dss_cons (ds_if (dt_eq hr (de_len (Z.free 0) (da_cons (de_name (pv 2)) da_nil)) (de_len (Z.free 0) (da_cons (de_slot (c := 0) (de_name (pv 0)) (Z.scls 19) (Z.slot 26)) da_nil))) (dss_one (ds_ret (de_name (pv 2)))) dss_nil)
      (dss_cons (ds_set sc.nd (de_ix hr (de_slot (c := 0) (de_name (pv 0)) (Z.scls 19) (Z.slot 26)) (de_len (Z.free 0) (da_cons (de_name (pv 2)) da_nil))))
      (dss_cons (ds_for (di_any (de_slot (c := 0) (de_name (pv 1)) (Z.scls 19) (Z.slot 26))) (dg_name sc.nd) (dss_one (ds_if (dw_pt (dw_and (dt_notin hr (de_name (pv 4)) (de_name (pv 2))) (dw_and1 (dt_truth (de_call FO_can_become (hr.mono (by omega)) (Z.glo 62) kp_can_become b_can_become ps (da_cons (de_name (pv 0)) (da_cons (de_name (pv 1)) (da_cons (de_name (pv 3)) (da_cons (de_name (pv 4)) (da_cons (de_name (pv 2)) da_nil))))) (lenA_cons (lenA_cons (lenA_cons (lenA_cons (lenA_cons lenA_nil)))))))))) (dss_cons (ds_set sc.nd (de_call FOself (hr.mono (by omega)) (Z.glo 31) kpself bself ps (da_cons (de_name (pv 0)) (da_cons (de_name (pv 1)) (da_cons (de_add (de_name (pv 2)) (de_name (pv 4))) da_nil))) (lenA_cons (lenA_cons (lenA_cons lenA_nil)))))
      (dss_one (ds_if (dt_notN (de_name (pv 5))) (dss_one (ds_ret (de_name (pv 5)))) dss_nil))) dss_nil)) po)
      (dss_one (ds_ret de_non)))))
theorem sc_renaming : FnScope ["one", "other", "found"] ["one", "other"] (defScope d_renaming.st) := ⟨rfl, rfl, rfl, by decide +kernel, rfl, by decide +kernel, by decide +kernel⟩
theorem ok_renaming (Z : SaysH K mg) : ∃ fd : FuncData, PySem.W.keepIn K (.ref (d_renaming.at_ K)) = true ∧ (Binds K fd ["one", "other"] []) ∧ FnOk P w K mg base (L2.CX P w) 15 (d_renaming.at_ K) fd ["one", "other"] (spF (CT K) 2 F_renaming) := by
  have sc := sc_renaming
  obtain ⟨fd_require_web, kp_require_web, b_require_web, FO_require_web⟩ := ok_require_web (P := P) (w := w) (base := base) Z
  obtain ⟨fd_renamed_behind, kp_renamed_behind, b_renamed_behind, FO_renamed_behind⟩ := ok_renamed_behind (P := P) (w := w) (base := base) Z 12
  obtain ⟨fd, FF⟩ := Z.c.def_ 22 (d := d_renaming) rfl
  refine ⟨fd, FF.kp, (FF.bindsN fun _ _ _ _ _ _ us hl => match us, hl with | [_, _], _ => rfl), fn_okD (N := ["one", "other", "found"]) FF sc rfl rfl fun cdv A outer s H E hr ps tk po => ?_⟩
  exact (dss_cons (ds_expr (de_call FO_require_web (hr.mono (by omega)) (Z.glo 30) kp_require_web b_require_web ps (da_cons (de_name (pv 0)) da_nil) (lenA_cons lenA_nil)))
      (dss_cons (ds_expr (de_call FO_require_web (hr.mono (by omega)) (Z.glo 30) kp_require_web b_require_web ps (da_cons (de_name (pv 1)) da_nil) (lenA_cons lenA_nil)))
      (dss_cons (ds_if (dw_pt (dw_or (dt_ne hr (de_len (Z.free 0) (da_cons (de_slot (c := 0) (de_name (pv 0)) (Z.scls 19) (Z.slot 26)) da_nil)) (de_len (Z.free 0) (da_cons (de_slot (c := 0) (de_name (pv 1)) (Z.scls 19) (Z.slot 26)) da_nil))) (dw_or1 (dt_ne hr (de_len (Z.free 0) (da_cons (de_slot (c := 0) (de_name (pv 0)) (Z.scls 19) (Z.slot 27)) da_nil)) (de_len (Z.free 0) (da_cons (de_slot (c := 0) (de_name (pv 1)) (Z.scls 19) (Z.slot 27)) da_nil)))))) (dss_one (ds_ret de_non)) dss_nil)
      (dss_cons (ds_set sc.nd (de_call FO_renamed_behind (hr.mono (by omega)) (Z.glo 31) kp_renamed_behind b_renamed_behind ps (da_cons (de_name (pv 0)) (da_cons (de_name (pv 1)) (da_cons (de_str (l := [])) da_nil))) (lenA_cons (lenA_cons (lenA_cons lenA_nil)))))
      (dss_one (ds_ret (de_if (dt_isN (de_name (pv 2))) de_non (de_dict (dn_dzip (Z.free 32) (Z.free 33) (da_cons (de_slot (c := 0) (de_name (pv 0)) (Z.scls 19) (Z.slot 26)) (da_cons (de_name (pv 2)) da_nil)))))))))))
theorem sc_Web___len__ : FnScope ["self"] ["self"] (defScope d_Web___len__.st) := ⟨rfl, rfl, rfl, by decide +kernel, rfl, by decide +kernel, by decide +kernel⟩
theorem ok_Web___len__ (Z : SaysH K mg) : ∃ fd : FuncData, PySem.W.keepIn K (.ref (d_Web___len__.at_ K)) = true ∧ (Binds K fd ["self"] []) ∧ FnOk P w K mg base (L2.CX P w) 1 (d_Web___len__.at_ K) fd ["self"] (spF (CT K) 1 F_Web___len__) := by
  have sc := sc_Web___len__
  obtain ⟨fd, FF⟩ := Z.c.def_ 23 (d := d_Web___len__) rfl
  refine ⟨fd, FF.kp, (FF.bindsN fun _ _ _ _ _ _ us hl => match us, hl with | [_], _ => rfl), fn_okD (N := ["self"]) FF sc rfl rfl fun cdv A outer s H E hr ps tk po => ?_⟩
  exact (dss_one (ds_ret (de_len (Z.free 0) (da_cons (de_slot (c := 0) (de_name (pv 0)) (Z.scls 19) (Z.slot 26)) da_nil))))
theorem sc__law_orders : FnScope ["items", "found", "item", "later", "order", "at"] ["items"] (defScope d__law_orders.st) := ⟨rfl, rfl, rfl, by decide +kernel, rfl, by decide +kernel, by decide +kernel⟩
theorem ok__law_orders (Z : SaysH K mg) : ∃ fd : FuncData, PySem.W.keepIn K (.ref (d__law_orders.at_ K)) = true ∧ (Binds K fd ["items"] []) ∧ FnOk P w K mg base (L2.CX P w) 1 (d__law_orders.at_ K) fd ["items"] (spF (CT K) 1 F__law_orders) := by
  have sc := sc__law_orders
  obtain ⟨fd, FF⟩ := Z.c.def_ 24 (d := d__law_orders) rfl
  refine ⟨fd, FF.kp, (FF.bindsN fun _ _ _ _ _ _ us hl => match us, hl with | [_], _ => rfl), fn_okD (N := ["items", "found", "item", "later", "order", "at"]) FF sc rfl rfl fun cdv A outer s H E hr ps tk po => ?_⟩
  exact (dss_cons (ds_set sc.nd (de_fresh (dn_lst (da_cons (de_fresh (dn_lst da_nil)) da_nil))))
      (dss_cons (ds_for (di_any (de_name (pv 0))) (dg_name sc.nd) (dss_cons (ds_setN sc.nd (dn_lst da_nil))
      (dss_cons (ds_for (di_any (de_name (pv 1))) (dg_name sc.nd) (dss_one (ds_expr (de_mu PySem.F.plainAttrs_list PySem.F.slot_list_extend PySem.F.type_list_extend mt_extend g_ext (de_name (pv 3)) (da_cons (de_fresh (dn_lc sc.nd (di_range1 (da_cons (de_add (de_len (Z.free 0) (da_cons (de_name (pv 4)) da_nil)) de_int) da_nil) (Z.free 3)) (own := [("at", 5)]) (blkOk_by (by rfl)) (fun _ _ _ _ _ => (dg_name sc.nd)) (fun _ _ _ _ _ => dts_nil) (fun _ _ _ _ _ => (de_add (de_add (de_fresh (dn_sl (de_name (pv 4)) do_none (do_some (de_name (pv 5))))) (de_fresh (dn_lst (da_cons (de_name (pv 2)) da_nil)))) (de_fresh (dn_sl (de_name (pv 4)) (do_some (de_name (pv 5))) do_none)))))) da_nil)))) po)
      (dss_one (ds_set sc.nd (de_fresh (dn_list (Z.free 35) (da_cons (de_name (pv 3)) da_nil))))))) po)
      (dss_one (ds_ret (de_name (pv 1))))))
theorem sc__law_strings : FnScope ["letters", "order"] ["letters"] (defScope d__law_strings.st) := ⟨rfl, rfl, rfl, by decide +kernel, rfl, by decide +kernel, by decide +kernel⟩
theorem ok__law_strings (Z : SaysH K mg) : ∃ fd : FuncData, PySem.W.keepIn K (.ref (d__law_strings.at_ K)) = true ∧ (Binds K fd ["letters"] []) ∧ FnOk P w K mg base (L2.CX P w) 2 (d__law_strings.at_ K) fd ["letters"] (spF (CT K) 1 F__law_strings) := by
  have sc := sc__law_strings
  obtain ⟨fd__law_orders, kp__law_orders, b__law_orders, FO__law_orders⟩ := ok__law_orders (P := P) (w := w) (base := base) Z
  obtain ⟨fd, FF⟩ := Z.c.def_ 25 (d := d__law_strings) rfl
  refine ⟨fd, FF.kp, (FF.bindsN fun _ _ _ _ _ _ us hl => match us, hl with | [_], _ => rfl), fn_okD (N := ["letters", "order"]) FF sc rfl rfl fun cdv A outer s H E hr ps tk po => ?_⟩
  exact (dss_one (ds_ret (de_fresh (dn_lc sc.nd (di_any (de_call FO__law_orders (hr.mono (by omega)) (Z.glo 64) kp__law_orders b__law_orders ps (da_cons (de_fresh (dn_list (Z.free 35) (da_cons (de_name (pv 0)) da_nil))) da_nil) (lenA_cons lenA_nil))) (own := [("order", 1)]) (blkOk_by (by rfl)) (fun _ _ _ _ _ => (dg_name sc.nd)) (fun _ _ _ _ _ => dts_nil) (fun _ _ _ _ _ => (de_join (de_str (l := [])) (da_cons (de_name (pv 1)) da_nil)))))))
theorem sc__law_leads : FnScope ["one", "other", "string", "names", "pairs", "pair"] ["one", "other", "string"] (defScope d__law_leads.st) := ⟨rfl, rfl, rfl, by decide +kernel, rfl, by decide +kernel, by decide +kernel⟩
theorem ok__law_leads (Z : SaysH K mg) : ∃ fd : FuncData, PySem.W.keepIn K (.ref (d__law_leads.at_ K)) = true ∧ (Binds K fd ["one", "other", "string"] []) ∧ FnOk P w K mg base (L2.CX P w) 3 (d__law_leads.at_ K) fd ["one", "other", "string"] (spF (CT K) 3 F__law_leads) := by
  have sc := sc__law_leads
  obtain ⟨fd_Web_letters, kp_Web_letters, b_Web_letters, FO_Web_letters⟩ := ok_Web_letters (P := P) (w := w) (base := base) Z
  obtain ⟨fd_Web_conflicts, kp_Web_conflicts, b_Web_conflicts, FO_Web_conflicts⟩ := ok_Web_conflicts (P := P) (w := w) (base := base) Z
  obtain ⟨fd, FF⟩ := Z.c.def_ 26 (d := d__law_leads) rfl
  refine ⟨fd, FF.kp, (FF.bindsN fun _ _ _ _ _ _ us hl => match us, hl with | [_, _, _], _ => rfl), fn_okD (N := ["one", "other", "string", "names", "pairs", "pair"]) FF sc rfl rfl fun cdv A outer s H E hr ps tk po => ?_⟩
  exact (dss_cons (ds_if (dw_pt (dw_or (dt_ne hr (de_join (de_str (l := [])) (da_cons (de_fresh (dn_sorted (Z.free 36) (da_cons (de_name (pv 2)) da_nil))) da_nil)) (de_prop (c := 0) FO_Web_letters b_Web_letters (de_name (pv 1)) (Z.scls 19) (Z.prop 18).at_ (Z.prop 18).get (Z.prop 18).tk (Z.prop 18).rc (hr.mono (by omega)) noCX)) (dw_or1 (dt_ne hr (de_len (Z.free 0) (da_cons (de_name (pv 2)) da_nil)) (de_len (Z.free 0) (da_cons (de_prop (c := 0) FO_Web_letters b_Web_letters (de_name (pv 0)) (Z.scls 19) (Z.prop 18).at_ (Z.prop 18).get (Z.prop 18).tk (Z.prop 18).rc (hr.mono (by omega)) noCX) da_nil)))))) (dss_one (ds_ret de_bl)) dss_nil)
      (dss_cons (ds_set sc.nd (de_dict (dn_dzip (Z.free 32) (Z.free 33) (da_cons (de_prop (c := 0) FO_Web_letters b_Web_letters (de_name (pv 0)) (Z.scls 19) (Z.prop 18).at_ (Z.prop 18).get (Z.prop 18).tk (Z.prop 18).rc (hr.mono (by omega)) noCX) (da_cons (de_name (pv 2)) da_nil)))))
      (dss_cons (by first | exact ds_set sc.nd (de_fresh (dn_lc sc.nd (di_any (de_prop (c := 0) FO_Web_conflicts b_Web_conflicts (de_name (pv 0)) (Z.scls 19) (Z.prop 20).at_ (Z.prop 20).get (Z.prop 20).tk (Z.prop 20).rc (hr.mono (by omega)) noCX)) (own := [("pair", 5)]) (blkOk_by (by rfl)) (fun _ _ _ _ _ => (dg_name sc.nd)) (fun _ _ _ _ _ => dts_nil) (fun _ _ _ _ _ => (de_fresh (dn_sorted (Z.free 36) (da_cons (de_fresh (dn_lst (da_cons (de_ix hr (de_name (pv 3)) (de_ix hr (de_name (pv 5)) de_int)) (da_cons (de_ix hr (de_name (pv 3)) (de_ix hr (de_name (pv 5)) de_int)) da_nil)))) da_nil)))))) | exact ds_setLc sc.nd (di_any (de_prop (c := 0) FO_Web_conflicts b_Web_conflicts (de_name (pv 0)) (Z.scls 19) (Z.prop 20).at_ (Z.prop 20).get (Z.prop 20).tk (Z.prop 20).rc (hr.mono (by omega)) noCX)) (own := [("pair", 5)]) (blkOk_by (by rfl)) (fun _ _ _ _ _ => (dg_name sc.nd)) (fun _ _ _ _ _ => dts_nil) (fun _ _ _ _ _ => (de_fresh (dn_sorted (Z.free 36) (da_cons (de_fresh (dn_lst (da_cons (de_ix hr (de_name (pv 3)) (de_ix hr (de_name (pv 5)) de_int)) (da_cons (de_ix hr (de_name (pv 3)) (de_ix hr (de_name (pv 5)) de_int)) da_nil)))) da_nil)))) (by first | rfl | decide +kernel))
      (dss_one (ds_ret (de_eq hr (de_fresh (dn_sorted (Z.free 36) (da_cons (de_fresh (dn_lc sc.nd (di_any (de_name (pv 4))) (own := [("pair", 5)]) (blkOk_by (by rfl)) (fun _ _ _ _ _ => (dg_name sc.nd)) (fun _ _ _ _ _ => dts_nil) (fun _ _ _ _ _ => (de_join (de_str (l := [])) (da_cons (de_name (pv 5)) da_nil))))) da_nil))) (de_fresh (dn_list (Z.free 35) (da_cons (de_prop (c := 0) FO_Web_conflicts b_Web_conflicts (de_name (pv 1)) (Z.scls 19) (Z.prop 20).at_ (Z.prop 20).get (Z.prop 20).tk (Z.prop 20).rc (hr.mono (by omega)) noCX) da_nil)))))))))
theorem sc_Web___contains__ : FnScope ["self", "value"] ["self", "value"] (defScope d_Web___contains__.st) := ⟨rfl, rfl, rfl, by decide +kernel, rfl, by decide +kernel, by decide +kernel⟩
theorem ok_Web___contains__ (Z : SaysH K mg) : ∃ fd : FuncData, PySem.W.keepIn K (.ref (d_Web___contains__.at_ K)) = true ∧ (Binds K fd ["self", "value"] []) ∧ FnOk P w K mg base (L2.CX P w) 2 (d_Web___contains__.at_ K) fd ["self", "value"] (spF (CT K) 2 F_Web___contains__) := by
  have sc := sc_Web___contains__
  obtain ⟨fd_is_letter, kp_is_letter, b_is_letter, FO_is_letter⟩ := ok_is_letter (P := P) (w := w) (base := base) Z
  obtain ⟨fd, FF⟩ := Z.c.def_ 27 (d := d_Web___contains__) rfl
  refine ⟨fd, FF.kp, (FF.bindsN fun _ _ _ _ _ _ us hl => match us, hl with | [_, _], _ => rfl), fn_okD (N := ["self", "value"]) FF sc rfl rfl fun cdv A outer s H E hr ps tk po => ?_⟩
  exact (dss_one (ds_ret (de_and (de_call FO_is_letter (hr.mono (by omega)) (Z.glo 57) kp_is_letter b_is_letter ps (da_cons (de_name (pv 1)) da_nil) (lenA_cons lenA_nil)) (de_one (de_in hr (de_name (pv 1)) (de_slot (c := 0) (de_name (pv 0)) (Z.scls 19) (Z.slot 26)))))))
theorem sc_Web_renamed : FnScope ["self", "names", "new", "letters", "one", "letter", "pair"] ["self", "names"] (defScope d_Web_renamed.st) := ⟨rfl, rfl, rfl, by decide +kernel, rfl, by decide +kernel, by decide +kernel⟩
theorem ok_Web_renamed (Z : SaysH K mg) : ∃ fd : FuncData, PySem.W.keepIn K (.ref (d_Web_renamed.at_ K)) = true ∧ (Binds K fd ["self", "names"] []) ∧ FnOk P w K mg base (L2.CX P w) 5 (d_Web_renamed.at_ K) fd ["self", "names"] (spF (CT K) 2 F_Web_renamed) := by
  have sc := sc_Web_renamed
  obtain ⟨fd_Web___contains__, kp_Web___contains__, b_Web___contains__, FO_Web___contains__⟩ := ok_Web___contains__ (P := P) (w := w) (base := base) Z
  obtain ⟨fd_is_letter, kp_is_letter, b_is_letter, FO_is_letter⟩ := ok_is_letter (P := P) (w := w) (base := base) Z
  obtain ⟨fd_are_ascending, kp_are_ascending, b_are_ascending, FO_are_ascending⟩ := ok_are_ascending (P := P) (w := w) (base := base) Z
  obtain ⟨fd_Web___init__, kp_Web___init__, ⟨b_Web___init__, b_Web___init___1, b_Web___init___2⟩, FO_Web___init__⟩ := ok_Web___init__ (P := P) (w := w) (base := base) Z
  obtain ⟨fd_pair_of, kp_pair_of, b_pair_of, FO_pair_of⟩ := ok_pair_of (P := P) (w := w) (base := base) Z
  obtain ⟨fd, FF⟩ := Z.c.def_ 28 (d := d_Web_renamed) rfl
  refine ⟨fd, FF.kp, (FF.bindsN fun _ _ _ _ _ _ us hl => match us, hl with | [_, _], _ => rfl), fn_okD (N := ["self", "names", "new", "letters", "one", "letter", "pair"]) FF sc rfl rfl fun cdv A outer s H E hr ps tk po => ?_⟩
  exact (dss_cons (ds_if (dw_pt (dw_or (dt_not (dt_truth (de_isi (de_name (pv 1)) (Z.free 45) (Z.free 32) (isG_tab (all7 rfl rfl rfl rfl rfl rfl rfl) (fun _ h => nomatch h))))) (dw_or1 (dt_not (dt_truth (de_all (Z.free 58) (da_cons (de_fresh (dn_lc sc.nd (di_keys (de_name (pv 1))) (own := [("one", 4)]) (blkOk_by (by rfl)) (fun _ _ _ _ _ => (dg_name sc.nd)) (fun _ _ _ _ _ => dts_nil) (fun _ _ _ _ _ => (de_and (de_inO (c := 0) FO_Web___contains__ b_Web___contains__ ⟨(Z.meth 65).at_, (Z.meth 65).fn⟩ (hr.mono (by omega)) passL (de_name (pv 4)) (de_name (pv 0))) (de_one (de_call FO_is_letter (hr.mono (by omega)) (Z.glo 57) kp_is_letter b_is_letter passL (da_cons (de_ix hr (de_name (pv 1)) (de_name (pv 4))) da_nil) (lenA_cons lenA_nil))))))) da_nil))))))) dss_off dss_nil)
      (dss_cons (ds_set sc.nd (de_dict (dn_dc sc.nd (di_any (de_slot (c := 0) (de_name (pv 0)) (Z.scls 19) (Z.slot 26))) (own := [("letter", 5)]) (blkOk_by (by rfl)) (fun _ _ _ _ _ => (dg_name sc.nd)) (fun _ _ _ _ _ => dts_nil) (fun _ _ _ _ _ => (de_name (pv 5))) (fun _ _ _ _ _ => (de_get2 hr (de_name (pv 1)) (de_name (pv 5)) (de_name (pv 5)))))))
      (dss_cons (ds_set sc.nd (de_join (de_str (l := [])) (da_cons (de_fresh (dn_sorted (Z.free 36) (da_cons (de_fresh (dn_lc sc.nd (di_any (de_slot (c := 0) (de_name (pv 0)) (Z.scls 19) (Z.slot 26))) (own := [("letter", 5)]) (blkOk_by (by rfl)) (fun _ _ _ _ _ => (dg_name sc.nd)) (fun _ _ _ _ _ => dts_nil) (fun _ _ _ _ _ => (de_ix hr (de_name (pv 2)) (de_name (pv 5)))))) da_nil))) da_nil)))
      (dss_cons (ds_if (dt_not (dt_truth (de_call FO_are_ascending (hr.mono (by omega)) (Z.glo 59) kp_are_ascending b_are_ascending ps (da_cons (de_name (pv 3)) da_nil) (lenA_cons lenA_nil)))) dss_off dss_nil)
      (dss_one (ds_ret (de_make (c := 0) FO_Web___init__ (Z.mkr 8 9) (hr.mono (by omega)) (Z.glo 7) b_Web___init__ .nil (fun _ => .nil) ps (da_cons (de_name (pv 3)) (da_cons (de_tuple (Z.free 39) (da_cons (de_fresh (dn_sorted (Z.free 36) (da_cons (de_fresh (dn_lc sc.nd (di_any (de_slot (c := 0) (de_name (pv 0)) (Z.scls 19) (Z.slot 27))) (own := [("pair", 6)]) (blkOk_by (by rfl)) (fun _ _ _ _ _ => (dg_name sc.nd)) (fun _ _ _ _ _ => dts_nil) (fun _ _ _ _ _ => (de_call FO_pair_of (hr.mono (by omega)) (Z.glo 61) kp_pair_of b_pair_of passL (da_cons (de_ix hr (de_name (pv 2)) (de_ix hr (de_name (pv 6)) de_int)) (da_cons (de_ix hr (de_name (pv 2)) (de_ix hr (de_name (pv 6)) de_int)) da_nil)) (lenA_cons (lenA_cons lenA_nil)))))) da_nil))) da_nil)) da_nil)) (lenA_cons (lenA_cons lenA_nil)))))))))
theorem sc_Web___eq__ : FnScope ["self", "other"] ["self", "other"] (defScope d_Web___eq__.st) := ⟨rfl, rfl, rfl, by decide +kernel, rfl, by decide +kernel, by decide +kernel⟩
theorem ok_Web___eq__ (Z : SaysH K mg) : ∃ fd : FuncData, PySem.W.keepIn K (.ref (d_Web___eq__.at_ K)) = true ∧ (Binds K fd ["self", "other"] []) ∧ FnOk P w K mg base (L2.CX P w) 1 (d_Web___eq__.at_ K) fd ["self", "other"] (spF (CT K) 2 F_Web___eq__) := by
  have sc := sc_Web___eq__
  obtain ⟨fd, FF⟩ := Z.c.def_ 29 (d := d_Web___eq__) rfl
  refine ⟨fd, FF.kp, (FF.bindsN fun _ _ _ _ _ _ us hl => match us, hl with | [_, _], _ => rfl), fn_okD (N := ["self", "other"]) FF sc rfl rfl fun cdv A outer s H E hr ps tk po => ?_⟩
  exact (dss_one (ds_ret (de_and (de_isiC (de_name (pv 1)) (Z.free 45) (Z.glo 7) (isG_tab (all7 (Z.kit 47 (v := fun _ => .type "NoneType")) (Z.kit 48 (v := fun _ => .type "bool")) (Z.kit 49 (v := fun _ => .type "int")) (Z.kit 50 (v := fun _ => .type "str")) (Z.kit 51 (v := fun _ => .type "tuple")) (Z.kit 52 (v := fun _ => .type "list")) (Z.kit 53 (v := fun _ => .type "dict"))) (all1 ⟨Z.kit 54 (v := fun K => .ref (He.ga K "Web")), Z.scls 19, Z.isi 55⟩))) (de_and (de_eq hr (de_slot (c := 0) (de_name (pv 0)) (Z.scls 19) (Z.slot 26)) (de_slot (c := 0) (de_name (pv 1)) (Z.scls 19) (Z.slot 26))) (de_one (de_eq hr (de_slot (c := 0) (de_name (pv 0)) (Z.scls 19) (Z.slot 27)) (de_slot (c := 0) (de_name (pv 1)) (Z.scls 19) (Z.slot 27))))))))
theorem sc__law_told_right : FnScope ["one", "other", "planted", "told", "string", "order", "letter"] ["one", "other", "planted"] (defScope d__law_told_right.st) := ⟨rfl, rfl, rfl, by decide +kernel, rfl, by decide +kernel, by decide +kernel⟩
theorem ok__law_told_right (Z : SaysH K mg) : ∃ fd : FuncData, PySem.W.keepIn K (.ref (d__law_told_right.at_ K)) = true ∧ (Binds K fd ["one", "other", "planted"] []) ∧ FnOk P w K mg base (L2.CX P w) 16 (d__law_told_right.at_ K) fd ["one", "other", "planted"] (spF (CT K) 3 F__law_told_right) := by
  have sc := sc__law_told_right
  obtain ⟨fd_renaming, kp_renaming, b_renaming, FO_renaming⟩ := ok_renaming (P := P) (w := w) (base := base) Z
  obtain ⟨fd_Web___len__, kp_Web___len__, b_Web___len__, FO_Web___len__⟩ := ok_Web___len__ (P := P) (w := w) (base := base) Z
  obtain ⟨fd__law_strings, kp__law_strings, b__law_strings, FO__law_strings⟩ := ok__law_strings (P := P) (w := w) (base := base) Z
  obtain ⟨fd_Web_letters, kp_Web_letters, b_Web_letters, FO_Web_letters⟩ := ok_Web_letters (P := P) (w := w) (base := base) Z
  obtain ⟨fd__law_leads, kp__law_leads, b__law_leads, FO__law_leads⟩ := ok__law_leads (P := P) (w := w) (base := base) Z
  obtain ⟨fd_Web_renamed, kp_Web_renamed, b_Web_renamed, FO_Web_renamed⟩ := ok_Web_renamed (P := P) (w := w) (base := base) Z
  obtain ⟨fd_Web___eq__, kp_Web___eq__, b_Web___eq__, FO_Web___eq__⟩ := ok_Web___eq__ (P := P) (w := w) (base := base) Z
  obtain ⟨fd, FF⟩ := Z.c.def_ 30 (d := d__law_told_right) rfl
  refine ⟨fd, FF.kp, (FF.bindsN fun _ _ _ _ _ _ us hl => match us, hl with | [_, _, _], _ => rfl), fn_okD (N := ["one", "other", "planted", "told", "string", "order", "letter"]) FF sc rfl rfl fun cdv A outer s H E hr ps tk po => ?_⟩
  exact (dss_cons (ds_set sc.nd (de_call FO_renaming (hr.mono (by omega)) (Z.glo 6) kp_renaming b_renaming ps (da_cons (de_name (pv 0)) (da_cons (de_name (pv 1)) da_nil)) (lenA_cons (lenA_cons lenA_nil))))
      (dss_cons (ds_if (dt_isN (de_name (pv 3))) (dss_cons (ds_if (dt_notN (de_name (pv 2))) (dss_one (ds_ret de_bl)) dss_nil)
      (dss_one (ds_ret (de_or (de_gt (de_lenO (c := 0) FO_Web___len__ b_Web___len__ (Z.meth 41).at_ (Z.meth 41).fn (hr.mono (by omega)) ps (Z.free 0) (de_name (pv 0))) de_int) (de_one (de_not (de_any (Z.free 44) (da_cons (de_fresh (dn_lc sc.nd (di_any (de_call FO__law_strings (hr.mono (by omega)) (Z.glo 42) kp__law_strings b__law_strings ps (da_cons (de_prop (c := 0) FO_Web_letters b_Web_letters (de_name (pv 1)) (Z.scls 19) (Z.prop 18).at_ (Z.prop 18).get (Z.prop 18).tk (Z.prop 18).rc (hr.mono (by omega)) noCX) da_nil) (lenA_cons lenA_nil))) (own := [("order", 5)]) (blkOk_by (by rfl)) (fun _ _ _ _ _ => (dg_name sc.nd)) (fun _ _ _ _ _ => dts_nil) (fun _ _ _ _ _ => (de_call FO__law_leads (hr.mono (by omega)) (Z.glo 43) kp__law_leads b__law_leads passL (da_cons (de_name (pv 0)) (da_cons (de_name (pv 1)) (da_cons (de_name (pv 5)) da_nil))) (lenA_cons (lenA_cons (lenA_cons lenA_nil))))))) da_nil)))))))) dss_nil)
      (dss_cons (ds_if (dw_pt (dw_or (dt_not (dt_truth (de_isi (de_name (pv 3)) (Z.free 45) (Z.free 32) (isG_tab (all7 rfl rfl rfl rfl rfl rfl rfl) (fun _ h => nomatch h))))) (dw_or1 (dt_ne hr (de_fresh (dn_list (Z.free 35) (da_cons (de_name (pv 3)) da_nil))) (de_fresh (dn_list (Z.free 35) (da_cons (de_prop (c := 0) FO_Web_letters b_Web_letters (de_name (pv 0)) (Z.scls 19) (Z.prop 18).at_ (Z.prop 18).get (Z.prop 18).tk (Z.prop 18).rc (hr.mono (by omega)) noCX) da_nil))))))) (dss_one (ds_ret de_bl)) dss_nil)
      (dss_cons (ds_set sc.nd (de_join (de_str (l := [])) (da_cons (de_fresh (dn_lc sc.nd (di_any (de_prop (c := 0) FO_Web_letters b_Web_letters (de_name (pv 0)) (Z.scls 19) (Z.prop 18).at_ (Z.prop 18).get (Z.prop 18).tk (Z.prop 18).rc (hr.mono (by omega)) noCX)) (own := [("letter", 6)]) (blkOk_by (by rfl)) (fun _ _ _ _ _ => (dg_name sc.nd)) (fun _ _ _ _ _ => dts_nil) (fun _ _ _ _ _ => (de_ix hr (de_name (pv 3)) (de_name (pv 6)))))) da_nil)))
      (dss_cons (ds_if (dw_pt (dw_or (dt_not (dt_truth (de_call FO__law_leads (hr.mono (by omega)) (Z.glo 43) kp__law_leads b__law_leads ps (da_cons (de_name (pv 0)) (da_cons (de_name (pv 1)) (da_cons (de_name (pv 4)) da_nil))) (lenA_cons (lenA_cons (lenA_cons lenA_nil)))))) (dw_or1 (dw_pt (dw_and (dt_notN (de_name (pv 2))) (dw_and1 (dt_gt (de_name (pv 4)) (de_name (pv 2))))))))) (dss_one (ds_ret de_bl)) dss_nil)
      (dss_cons (ds_if (dt_neO (c := 0) FO_Web___eq__ b_Web___eq__ (Z.eq 22 21) (hr.mono (by omega)) ps (de_meth (c := 0) FO_Web_renamed b_Web_renamed .nil (fun _ => .nil) (de_name (pv 0)) (da_cons (de_name (pv 3)) da_nil) (lenA_cons lenA_nil) (Z.scls 19) (Z.meth 46) (hr.mono (by omega)) ps) (de_name (pv 1))) (dss_one (ds_ret de_bl)) dss_nil)
      (dss_cons (ds_if (dt_gt (de_lenO (c := 0) FO_Web___len__ b_Web___len__ (Z.meth 41).at_ (Z.meth 41).fn (hr.mono (by omega)) ps (Z.free 0) (de_name (pv 0))) de_int) (dss_one (ds_ret de_bl)) dss_nil)
      (dss_one (ds_ret (de_eq hr (de_name (pv 4)) (de_minL (Z.free 1) (da_cons (de_fresh (dn_lc sc.nd (di_any (de_call FO__law_strings (hr.mono (by omega)) (Z.glo 42) kp__law_strings b__law_strings ps (da_cons (de_prop (c := 0) FO_Web_letters b_Web_letters (de_name (pv 1)) (Z.scls 19) (Z.prop 18).at_ (Z.prop 18).get (Z.prop 18).tk (Z.prop 18).rc (hr.mono (by omega)) noCX) da_nil) (lenA_cons lenA_nil))) (own := [("order", 5)]) (blkOk_by (by rfl)) (fun _ _ _ _ _ => (dg_name sc.nd)) (fun _ _ _ _ _ => (dts_one (dt_truth (de_call FO__law_leads (hr.mono (by omega)) (Z.glo 43) kp__law_leads b__law_leads passL (da_cons (de_name (pv 0)) (da_cons (de_name (pv 1)) (da_cons (de_name (pv 5)) da_nil))) (lenA_cons (lenA_cons (lenA_cons lenA_nil))))))) (fun _ _ _ _ _ => (de_name (pv 5))))) da_nil))))))))))))
theorem sc__law_case : FnScope ["dice", "letters", "web", "other", "planted", "bent", "alone", "drawn"] ["dice"] (defScope d__law_case.st) := ⟨rfl, rfl, rfl, by decide +kernel, rfl, by decide +kernel, by decide +kernel⟩
theorem ok__law_case (Z : SaysH K mg) : ∃ fd : FuncData, PySem.W.keepIn K (.ref (d__law_case.at_ K)) = true ∧ (Binds K fd ["dice"] []) ∧ FnOk P w K mg base (L2.CX P w) 17 (d__law_case.at_ K) fd ["dice"] (spF (CT K) 1 F__law_case) := by
  have sc := sc__law_case
  obtain ⟨fd__law_any_letters, kp__law_any_letters, b__law_any_letters, FO__law_any_letters⟩ := ok__law_any_letters (P := P) (w := w) (base := base) Z
  obtain ⟨fd__law_roll, kp__law_roll, b__law_roll, FO__law_roll⟩ := ok__law_roll (P := P) (w := w) (base := base) Z
  obtain ⟨fd_Web___init__, kp_Web___init__, ⟨b_Web___init__, b_Web___init___1, b_Web___init___2⟩, FO_Web___init__⟩ := ok_Web___init__ (P := P) (w := w) (base := base) Z
  obtain ⟨fd__law_conflicts, kp__law_conflicts, b__law_conflicts, FO__law_conflicts⟩ := ok__law_conflicts (P := P) (w := w) (base := base) Z
  obtain ⟨fd__law_planted, kp__law_planted, b__law_planted, FO__law_planted⟩ := ok__law_planted (P := P) (w := w) (base := base) Z
  obtain ⟨fd__law_bent, kp__law_bent, b__law_bent, FO__law_bent⟩ := ok__law_bent (P := P) (w := w) (base := base) Z
  obtain ⟨fd__law_told_right, kp__law_told_right, b__law_told_right, FO__law_told_right⟩ := ok__law_told_right (P := P) (w := w) (base := base) Z
  obtain ⟨fd_Web_letters, kp_Web_letters, b_Web_letters, FO_Web_letters⟩ := ok_Web_letters (P := P) (w := w) (base := base) Z
  obtain ⟨fd_renaming, kp_renaming, b_renaming, FO_renaming⟩ := ok_renaming (P := P) (w := w) (base := base) Z
  obtain ⟨fd_Web_conflicts, kp_Web_conflicts, b_Web_conflicts, FO_Web_conflicts⟩ := ok_Web_conflicts (P := P) (w := w) (base := base) Z
  obtain ⟨fd_Web___eq__, kp_Web___eq__, b_Web___eq__, FO_Web___eq__⟩ := ok_Web___eq__ (P := P) (w := w) (base := base) Z
  obtain ⟨fd, FF⟩ := Z.c.def_ 31 (d := d__law_case) rfl
  refine ⟨fd, FF.kp, (FF.bindsN fun _ _ _ _ _ _ us hl => match us, hl with | [_], _ => rfl), fn_okD (N := ["dice", "letters", "web", "other", "planted", "bent", "alone", "drawn"]) FF sc rfl rfl fun cdv A outer s H E hr ps tk po => ?_⟩
  exact (dss_cons (ds_set sc.nd (de_callI FO__law_any_letters (hr.mono (by omega)) (Z.glo 12) kp__law_any_letters b__law_any_letters ps (da_cons (de_name (pv 0)) (da_cons de_int (da_cons (de_if (dt_gt (de_callI FO__law_roll (hr.mono (by omega)) (Z.glo 13) kp__law_roll b__law_roll ps (da_cons (de_name (pv 0)) (da_cons de_int da_nil)) (lenA_cons (lenA_cons lenA_nil))) de_int) de_int de_int) da_nil))) (lenA_cons (lenA_cons (lenA_cons lenA_nil)))))
      (dss_cons (ds_set sc.nd (de_make (c := 0) FO_Web___init__ (Z.mkr 8 9) (hr.mono (by omega)) (Z.glo 7) b_Web___init__ .nil (fun _ => .nil) ps (da_cons (de_name (pv 1)) (da_cons (de_callI FO__law_conflicts (hr.mono (by omega)) (Z.glo 14) kp__law_conflicts b__law_conflicts ps (da_cons (de_name (pv 0)) (da_cons (de_name (pv 1)) da_nil)) (lenA_cons (lenA_cons lenA_nil))) da_nil)) (lenA_cons (lenA_cons lenA_nil))))
      (dss_cons (ds_asgT (de_callI FO__law_planted (hr.mono (by omega)) (Z.glo 15) kp__law_planted b__law_planted ps (da_cons (de_name (pv 0)) (da_cons (de_name (pv 2)) da_nil)) (lenA_cons (lenA_cons lenA_nil))) (dg_tup (dgs_cons (dg_name sc.nd) (dgs_cons (dg_name sc.nd) dgs_nil))))
      (dss_cons (ds_par sc.nd (dx_imm (de_callI FO__law_bent (hr.mono (by omega)) (Z.glo 16) kp__law_bent b__law_bent ps (da_cons (de_name (pv 0)) (da_cons (de_name (pv 3)) da_nil)) (lenA_cons (lenA_cons lenA_nil)))) (dx_imm (de_callI FO__law_any_letters (hr.mono (by omega)) (Z.glo 12) kp__law_any_letters b__law_any_letters ps (da_cons (de_name (pv 0)) (da_cons de_int (da_cons de_int da_nil))) (lenA_cons (lenA_cons (lenA_cons lenA_nil))))) (by first | rfl | decide +kernel))
      (dss_cons (ds_set sc.nd (de_make (c := 0) FO_Web___init__ (Z.mkr 8 9) (hr.mono (by omega)) (Z.glo 7) b_Web___init__ .nil (fun _ => .nil) ps (da_cons (de_name (pv 6)) (da_cons (de_callI FO__law_conflicts (hr.mono (by omega)) (Z.glo 14) kp__law_conflicts b__law_conflicts ps (da_cons (de_name (pv 0)) (da_cons (de_name (pv 6)) da_nil)) (lenA_cons (lenA_cons lenA_nil))) da_nil)) (lenA_cons (lenA_cons lenA_nil))))
      (dss_cons (ds_if (dw_pt (dw_or (dt_not (dt_truth (de_call FO__law_told_right (hr.mono (by omega)) (Z.glo 17) kp__law_told_right b__law_told_right ps (da_cons (de_name (pv 2)) (da_cons (de_name (pv 3)) (da_cons (de_name (pv 4)) da_nil))) (lenA_cons (lenA_cons (lenA_cons lenA_nil)))))) (dw_or1 (dt_not (dt_truth (de_call FO__law_told_right (hr.mono (by omega)) (Z.glo 17) kp__law_told_right b__law_told_right ps (da_cons (de_name (pv 2)) (da_cons (de_name (pv 5)) (da_cons de_non da_nil))) (lenA_cons (lenA_cons (lenA_cons lenA_nil))))))))) (dss_one (ds_ret de_bl)) dss_nil)
      (dss_cons (ds_if (dw_pt (dw_or (dt_not (dt_truth (de_call FO__law_told_right (hr.mono (by omega)) (Z.glo 17) kp__law_told_right b__law_told_right ps (da_cons (de_name (pv 2)) (da_cons (de_name (pv 7)) (da_cons de_non da_nil))) (lenA_cons (lenA_cons (lenA_cons lenA_nil)))))) (dw_or1 (dt_not (dt_truth (de_call FO__law_told_right (hr.mono (by omega)) (Z.glo 17) kp__law_told_right b__law_told_right ps (da_cons (de_name (pv 2)) (da_cons (de_name (pv 2)) (da_cons (de_prop (c := 0) FO_Web_letters b_Web_letters (de_name (pv 2)) (Z.scls 19) (Z.prop 18).at_ (Z.prop 18).get (Z.prop 18).tk (Z.prop 18).rc (hr.mono (by omega)) noCX) da_nil))) (lenA_cons (lenA_cons (lenA_cons lenA_nil))))))))) (dss_one (ds_ret de_bl)) dss_nil)
      (dss_cons (ds_if (dt_ne hr (de_isN (de_call FO_renaming (hr.mono (by omega)) (Z.glo 6) kp_renaming b_renaming ps (da_cons (de_name (pv 3)) (da_cons (de_name (pv 2)) da_nil)) (lenA_cons (lenA_cons lenA_nil)))) (de_isN (de_call FO_renaming (hr.mono (by omega)) (Z.glo 6) kp_renaming b_renaming ps (da_cons (de_name (pv 2)) (da_cons (de_name (pv 3)) da_nil)) (lenA_cons (lenA_cons lenA_nil))))) (dss_one (ds_ret de_bl)) dss_nil)
      (dss_cons (ds_if (dw_pt (dw_and (dt_ne hr (de_len (Z.free 0) (da_cons (de_prop (c := 0) FO_Web_conflicts b_Web_conflicts (de_name (pv 5)) (Z.scls 19) (Z.prop 20).at_ (Z.prop 20).get (Z.prop 20).tk (Z.prop 20).rc (hr.mono (by omega)) noCX) da_nil)) (de_len (Z.free 0) (da_cons (de_prop (c := 0) FO_Web_conflicts b_Web_conflicts (de_name (pv 2)) (Z.scls 19) (Z.prop 20).at_ (Z.prop 20).get (Z.prop 20).tk (Z.prop 20).rc (hr.mono (by omega)) noCX) da_nil))) (dw_and1 (dt_notN (de_call FO_renaming (hr.mono (by omega)) (Z.glo 6) kp_renaming b_renaming ps (da_cons (de_name (pv 2)) (da_cons (de_name (pv 5)) da_nil)) (lenA_cons (lenA_cons lenA_nil))))))) (dss_one (ds_ret de_bl)) dss_nil)
      (dss_one (ds_ret (de_and (de_eqO (c := 0) FO_Web___eq__ b_Web___eq__ (And.left (Z.eq 22 21)) (hr.mono (by omega)) ps (de_name (pv 2)) (de_make (c := 0) FO_Web___init__ (Z.mkr 8 9) (hr.mono (by omega)) (Z.glo 7) b_Web___init__ .nil (fun _ => .nil) ps (da_cons (de_name (pv 1)) (da_cons (de_prop (c := 0) FO_Web_conflicts b_Web_conflicts (de_name (pv 2)) (Z.scls 19) (Z.prop 20).at_ (Z.prop 20).get (Z.prop 20).tk (Z.prop 20).rc (hr.mono (by omega)) noCX) da_nil)) (lenA_cons (lenA_cons lenA_nil)))) (de_one (de_eq hr (de_prop (c := 0) FO_Web_letters b_Web_letters (de_name (pv 2)) (Z.scls 19) (Z.prop 18).at_ (Z.prop 18).get (Z.prop 18).tk (Z.prop 18).rc (hr.mono (by omega)) noCX) (de_name (pv 1))))))))))))))))
theorem sc__law_dice : FnScope ["script", "spot", "cell", "left"] ["script", "spot"] (defScope d__law_dice.st) := ⟨rfl, rfl, rfl, by decide +kernel, rfl, by decide +kernel, by decide +kernel⟩
theorem ok__law_dice (Z : SaysH K mg) : ∃ fd : FuncData, PySem.W.keepIn K (.ref (d__law_dice.at_ K)) = true ∧ (Binds K fd ["script", "spot"] []) ∧ FnOk P w K mg base (L2.CX P w) 1 (d__law_dice.at_ K) fd ["script", "spot"] (spF (CT K) 2 F__law_dice) := by
  have sc := sc__law_dice
  obtain ⟨fd, FF⟩ := Z.c.def_ 32 (d := d__law_dice) rfl
  refine ⟨fd, FF.kp, (FF.bindsN fun _ _ _ _ _ _ us hl => match us, hl with | [_, _], _ => rfl), fn_okD (N := ["script", "spot", "cell", "left"]) FF sc rfl rfl fun cdv A outer s H E hr ps tk po => ?_⟩
  exact (dss_cons (ds_set sc.nd (de_if (dt_lt (de_name (pv 1)) (de_len (Z.free 0) (da_cons (de_name (pv 0)) da_nil))) (de_intC (Z.free 10) (da_cons (de_ix hr (de_name (pv 0)) (de_name (pv 1))) da_nil)) (de_add (de_mul de_int (de_name (pv 1))) de_int)))
      (dss_cons (ds_set sc.nd (de_mod (de_max2 (Z.free 2) (da_cons de_int (da_cons (de_sub (de_abs (Z.free 11) (da_cons (de_name (pv 2)) da_nil)) (de_pow de_int de_int)) da_nil))) (de_mul (de_pow de_int de_int) (de_pow de_int de_int))))
      (dss_one (ds_retNew (dn_lst (da_cons (de_name (pv 3)) (da_cons (de_add (de_add (de_add (de_mul (de_mod (de_abs (Z.free 11) (da_cons (de_name (pv 2)) da_nil)) de_int) de_int) (de_mul de_int (de_name (pv 1)))) (de_mul de_int (de_intC (Z.free 10) (da_cons (de_lt (de_name (pv 2)) de_int) da_nil)))) de_int) (da_cons de_int da_nil))))))))
theorem sc_law : FnScope ["script", "spot"] ["script"] (defScope d_law.st) := ⟨rfl, rfl, rfl, by decide +kernel, rfl, by decide +kernel, by decide +kernel⟩
theorem ok_law (Z : SaysH K mg) {fd : FuncData} (FF : DefOk K d_law fd) : FnOk P w K mg base (L2.CX P w) 18 (d_law.at_ K) fd ["script"] (spF (CT K) 1 F_law) := by
  have sc := sc_law
  obtain ⟨fd__law_case, kp__law_case, b__law_case, FO__law_case⟩ := ok__law_case (P := P) (w := w) (base := base) Z
  obtain ⟨fd__law_dice, kp__law_dice, b__law_dice, FO__law_dice⟩ := ok__law_dice (P := P) (w := w) (base := base) Z
  obtain ⟨fd_renaming, kp_renaming, b_renaming, FO_renaming⟩ := ok_renaming (P := P) (w := w) (base := base) Z
  obtain ⟨fd_Web___init__, kp_Web___init__, ⟨b_Web___init__, b_Web___init___1, b_Web___init___2⟩, FO_Web___init__⟩ := ok_Web___init__ (P := P) (w := w) (base := base) Z
  refine fn_okD (N := ["script", "spot"]) FF sc rfl rfl fun cdv A outer s H E hr ps tk po => ?_
  exact (dss_cons (ds_for (di_range1 (da_cons (de_max2 (Z.free 2) (da_cons de_int (da_cons (de_min2 (Z.free 1) (da_cons de_int (da_cons (de_len (Z.free 0) (da_cons (de_name (pv 0)) da_nil)) da_nil))) da_nil))) da_nil) (Z.free 3)) (dg_name sc.nd) (dss_one (ds_if (dt_not (dt_truth (de_callFr FO__law_case (hr.mono (by omega)) (Z.glo 4) kp__law_case b__law_case ps (dn_call FO__law_dice (hr.mono (by omega)) (Z.glo 5) kp__law_dice b__law_dice ps (da_cons (de_name (pv 0)) (da_cons (de_name (pv 1)) da_nil)) (lenA_cons (lenA_cons lenA_nil)))))) (dss_one (ds_ret de_bl)) dss_nil)) po)
      (dss_one (ds_ret (de_eqDk hr (de_call FO_renaming (hr.mono (by omega)) (Z.glo 6) kp_renaming b_renaming ps (da_cons (de_make0 (c := 0) FO_Web___init__ (Z.mkr 8 9) (hr.mono (by omega)) (Z.glo 7) b_Web___init___2.2.choose_spec.2 b_Web___init___2.2.choose_spec.1 b_Web___init___2.1 ps) (da_cons (de_make0 (c := 0) FO_Web___init__ (Z.mkr 8 9) (hr.mono (by omega)) (Z.glo 7) b_Web___init___2.2.choose_spec.2 b_Web___init___2.2.choose_spec.1 b_Web___init___2.1 ps) da_nil)) (lenA_cons (lenA_cons lenA_nil))) (de_dict dn_dk0)))))
end
end K03
set_option Elab.async false
set_option linter.all false
set_option maxRecDepth 100000
set_option maxHeartbeats 0
namespace K03
open PySem PySem.Spec PyProof.Rows L2 DE
abbrev Rw : PySem.W.OpenRow := PySem.W.OpenLaw.row PySem.Challenge.rw_turnwebs_k03_whole_renamings
abbrev hk : PySem.W.Hook := hookX 6 fa fn
def ob (s : PySem.W.SharedT) : He.AlD := obsXG 6 fa fn (HandSHeadRun.getT s)
theorem ob_eq (s : PySem.W.SharedT) : ob s = hk.obs s.abs := obsXG_eq (HandSHeadRun.getT_eq s)
def names0 : List Str := ["_wall", "__name__", "WebError", "InvalidWeb", "InvalidText", "InvalidOperation", "UnknownName", "TooMany", "Refused", "is_letter", "are_ascending", "MAX_LETTERS", "pair_of", "pairs_of", "are_letters", "are_conflicts", "close_row", "together", "Web", "require_web", "require_letter", "can_become", "renamed_behind", "renaming", "_law_dice", "_law_roll", "_law_mixed", "_law_some", "_law_pairs", "_law_conflicts"]
def names1 : List Str := ["_law_any_letters", "_law_orders", "_law_leads", "_law_planted", "_law_bent", "_law_told_right", "_law_strings", "_law_case"]
def names : List Str := names0 ++ names1
theorem run_top (w : World) : HandSHeadRun.RunEq Rw (PySem.W.view Rw.prog [41]) hk ob 8000 names w := by
  intro os
  kernel_rfl
theorem the_facts {P : Program} {w : World} {K : PySem.W.Frag} {h : Heap} {mg : Str → Option Value} {f : Addr} (X : K.In h) (G : h.Ns mainGlobals mg) (hfa : mg ("law" : Str) = some (.ref f)) (c : SaysX fa fn K) :
    ∃ fd : FuncData, (∀ (s : Shared) (v : Value), BindsTo s fd ⟨[v], []⟩ [("script", v)]) ∧ ∀ base : Heap, K.In base → base.Ns mainGlobals mg → FnOk P w K mg base (L2.CX P w) 18 f fd ["script"] (spF (CT K) 1 F_law) := by
  have Z : SaysH K mg := Says.of c X G
  obtain ⟨fd, FF⟩ := c.def_ 33 (d := d_law) rfl
  have e := hfa.symm.trans (Z.glo 67)
  cases e
  have b := FunD.bindsA (ps := ["script"]) FF fun _ _ _ _ _ _ us hl => match us, hl with | [_], _ => rfl
  exact ⟨fd, fun s v => b s [v] rfl, fun base _ _ => ok_law Z FF⟩
end K03
open PySem PySem.W PySem.Calls PyProof.Rows DE K03
theorem PySem.Challenge.cw_turnwebs_k03_whole_renamings_holds : PySem.Challenge.rw_turnwebs_k03_whole_renamings.Holds := by
  w_on; o_law
  refine HandSHeadRun.head_any (r := Rw) (q := view Rw.prog [41]) (H := hk) (ob := ob) (M := 8000) (loose := names) (d := HandSHeadRun.topDef Rw.prog 41) (kwd := []) ob_eq
    (by kernel_rfl) (fun s => by kernel_rfl) run_top (by kernel_rfl) (by kernel_rfl) (by kernel_rfl) (by rfl) (by first | assumption | decide +kernel) (by decide +kernel) ⟨rfl, rfl, rfl, rfl, rfl, by decide +kernel⟩ ?hw ?hc
  case hw => w_witness2
  case hc =>
    refine DE.law_end (lw := PySem.Challenge.rw_turnwebs_k03_whole_renamings) (nn := 63) (kr := 18) (xn := "script") rfl (by decide) (by kernel_rfl) ⟨rfl, by decide, by decide⟩ ?F
    case F =>
      intro w mg f h Y G hmg0
      obtain ⟨K, KX, c⟩ := Y
      have hmg : mg ("law" : PySem.Str) = some (.ref f) := by
        have e : (HandSHeadRun.topDef Rw.prog 41).name = ("law" : PySem.Str) := by kernel_rfl
        rw [← e]
        exact hmg0
      obtain ⟨fd, hb, hF⟩ := the_facts (P := (PySem.Challenge.rw_turnwebs_k03_whole_renamings).prog) (w := w) KX G hmg c
      exact ⟨K, fd, _, KX, hb, fun H a ns hl hS => sp_law rfl law_true H a ns hl hS, hF⟩
