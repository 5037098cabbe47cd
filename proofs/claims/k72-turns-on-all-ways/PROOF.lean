import PyProof.Rows.All
import Wide.All
import OpenK.AllK
import Wide.FinOn
import HandS.ForExc
import HandS.Comp
import HandS.ForMost
import HandS.TupAny
import HandS.TupLe
import HandS.TupMul
import HandS.Deep
import HandS.IsInst
import HandS.SortInts
import HandS.Conv
import HandS.Rev
import HandS.Text
import PySem.Challenge.RW_everyhands_k72_whole_turns_on_all_ways
set_option Elab.async false
set_option linter.all false
set_option maxRecDepth 100000
set_option maxHeartbeats 4000000
/-! Z: a run of a def as a plain function over values (data D, owned lists by slot), and what ties it to the layer's readings -/
namespace Z
open PySem L2

/-! ### data -/
/-- kls: a list that is read alone (the script, a list of the module) -/
inductive D where
  | non | bl (b : Bool) | int (i : Int) | str (x : Str) | tup (ds : List D) | lst (ds : List D) | kls (ds : List D)

instance : Inhabited D := ⟨.non⟩

/-- what a slot holds: data, or a list of its own (io: handed in, handed back) -/
inductive SV where
  | d (x : D) | own (io : Bool) (ds : List D)
abbrev En := List (Option SV)

structure Exn where
  cls : Str
  fld : Option (Str × Int)

inductive Rs (α : Type) where
  | ok (a : α) (ρ : En) | exc (e : Exn) (ρ : En) | bad
abbrev M (α : Type) := En → Rs α
def mpure {α : Type} (a : α) : M α := fun ρ => .ok a ρ
def mbad {α : Type} : M α := fun _ => .bad
def mbind {α β : Type} (f : M α) (g : α → M β) : M β := fun ρ => match f ρ with
  | .ok a ρ' => g a ρ'
  | .exc e ρ' => .exc e ρ'
  | .bad => .bad
def mopt {α : Type} : Option α → M α
  | some a => mpure a
  | none => mbad

/-! ### data in the abstract heap -/
mutual
inductive Rep (K : PySem.W.Frag) (F : Addr → Prop) (H : Hp) : D → V → Prop
  | non : Rep K F H .non .non
  | bl (b : Bool) : Rep K F H (.bl b) (.bl b)
  | int (i : Int) : Rep K F H (.int i) (.int i)
  | str (x : Str) : Rep K F H (.str x) (.str x)
  | tup {a : Addr} {vs : List V} {ds : List D} : SqT K H a vs → (¬ F a ∨ ∀ H', SqT K H' a vs) → Reps K F H ds vs → Rep K F H (.tup ds) (.ref a)
  | lst {a : Addr} {vs : List V} {ds : List D} : H a = some (.lst vs) → ¬ F a → Reps K F H ds vs → Rep K F H (.lst ds) (.ref a)
  | kls {a : Addr} {vs : List V} {ds : List D} : SqL K H a vs → (¬ F a ∨ ∀ H', SqL K H' a vs) → Reps K F H ds vs → Rep K F H (.kls ds) (.ref a)
inductive Reps (K : PySem.W.Frag) (F : Addr → Prop) (H : Hp) : List D → List V → Prop
  | nil : Reps K F H [] []
  | cons {d : D} {v : V} {ds : List D} {vs : List V} : Rep K F H d v → Reps K F H ds vs → Reps K F H (d :: ds) (v :: vs)
end

theorem ZqT.has {K : PySem.W.Frag} {H : Hp} {a : Addr} {xs : List V} (h : SqT K H a xs) : (∃ o, H a = some o) ∨ ∀ H', SqT K H' a xs := by
  rcases h with (h | ⟨o, h⟩) | h
  · exact .inl ⟨_, h⟩
  · exact .inl ⟨_, h⟩
  · exact .inr fun _ => .inr h
theorem ZqL.has {K : PySem.W.Frag} {H : Hp} {a : Addr} {xs : List V} (h : SqL K H a xs) : (∃ o, H a = some o) ∨ ∀ H', SqL K H' a xs := by
  rcases h with (h | ⟨o, h⟩) | h
  · exact .inl ⟨_, h⟩
  · exact .inl ⟨_, h⟩
  · exact .inr fun _ => .inr h
theorem ZqT.go {K : PySem.W.Frag} {H H' : Hp} {a : Addr} {xs : List V} (h : SqT K H a xs) (k : ∀ o, H a = some o → H' a = some o) : SqT K H' a xs := by
  rcases h with (h | ⟨o, h⟩) | h
  · exact .inl (.inl (k _ h))
  · exact .inl (.inr ⟨o, k _ h⟩)
  · exact .inr h
theorem ZqL.go {K : PySem.W.Frag} {H H' : Hp} {a : Addr} {xs : List V} (h : SqL K H a xs) (k : ∀ o, H a = some o → H' a = some o) : SqL K H' a xs := by
  rcases h with (h | ⟨o, h⟩) | h
  · exact .inl (.inl (k _ h))
  · exact .inl (.inr ⟨o, k _ h⟩)
  · exact .inr h

section
variable {K : PySem.W.Frag} {F F' : Addr → Prop} {H H' : Hp}
mutual
/-- data stays data where what may change is not its own -/
theorem Rep.mono (hF : ∀ a, F' a → F a ∨ H a = none) (hk : ∀ a o, H a = some o → ¬ F a → H' a = some o) : ∀ {d : D} {v : V}, Rep K F H d v → Rep K F' H' d v
  | _, _, .non => .non
  | _, _, .bl b => .bl b
  | _, _, .int i => .int i
  | _, _, .str x => .str x
  | _, _, .tup (a := a) h n r => by
    have r' := Reps.mono hF hk r
    rcases n with n | n
    · rcases ZqT.has h with ⟨o, e⟩ | n'
      · exact .tup (ZqT.go h fun o e => hk a o e n) (.inl fun z => (hF a z).elim n fun q => by rw [e] at q; cases q) r'
      · exact .tup (n' _) (.inr n') r'
    · exact .tup (n _) (.inr n) r'
  | _, _, .lst (a := a) h n r => .lst (hk a _ h n) (fun z => (hF a z).elim n fun q => by rw [h] at q; cases q) (Reps.mono hF hk r)
  | _, _, .kls (a := a) h n r => by
    have r' := Reps.mono hF hk r
    rcases n with n | n
    · rcases ZqL.has h with ⟨o, e⟩ | n'
      · exact .kls (ZqL.go h fun o e => hk a o e n) (.inl fun z => (hF a z).elim n fun q => by rw [e] at q; cases q) r'
      · exact .kls (n' _) (.inr n') r'
    · exact .kls (n _) (.inr n) r'
theorem Reps.mono (hF : ∀ a, F' a → F a ∨ H a = none) (hk : ∀ a o, H a = some o → ¬ F a → H' a = some o) : ∀ {ds : List D} {vs : List V}, Reps K F H ds vs → Reps K F' H' ds vs
  | _, _, .nil => .nil
  | _, _, .cons h r => .cons (Rep.mono hF hk h) (Reps.mono hF hk r)
end
theorem Reps.length : ∀ {ds : List D} {vs : List V}, Reps K F H ds vs → ds.length = vs.length
  | _, _, .nil => rfl
  | _, _, .cons _ r => congrArg (· + 1) r.length
theorem Reps.append : ∀ {ds es : List D} {vs us : List V}, Reps K F H ds vs → Reps K F H es us → Reps K F H (ds ++ es) (vs ++ us)
  | _, _, _, _, .nil, q => q
  | _, _, _, _, .cons h r, q => .cons h (r.append q)
theorem Reps.get : ∀ {ds : List D} {vs : List V} {i : Nat} {x : D}, Reps K F H ds vs → ds[i]? = some x → ∃ v, vs[i]? = some v ∧ Rep K F H x v
  | _, _, _, _, .nil, e => by simp at e
  | _, _, 0, _, .cons h _, e => by simp at e; subst e; exact ⟨_, rfl, h⟩
  | _, _, i + 1, x, .cons _ r, e => by
    obtain ⟨v, h1, h2⟩ := Reps.get (i := i) (x := x) r (by simpa using e)
    exact ⟨v, by simpa using h1, h2⟩
theorem Reps.set {x : D} {v : V} (h : Rep K F H x v) : ∀ {ds : List D} {vs : List V} (i : Nat), Reps K F H ds vs → Reps K F H (ds.set i x) (vs.set i v)
  | _, _, _, .nil => .nil
  | _, _, 0, .cons _ r => .cons h r
  | _, _, i + 1, .cons q r => .cons q (Reps.set h i r)
theorem Reps.take : ∀ {ds : List D} {vs : List V} (n : Nat), Reps K F H ds vs → Reps K F H (ds.take n) (vs.take n)
  | _, _, 0, _ => .nil
  | _, _, _ + 1, .nil => .nil
  | _, _, n + 1, .cons h r => .cons h (r.take n)
theorem Reps.drop : ∀ {ds : List D} {vs : List V} (n : Nat), Reps K F H ds vs → Reps K F H (ds.drop n) (vs.drop n)
  | _, _, 0, r => r
  | _, _, _ + 1, .nil => .nil
  | _, _, n + 1, .cons _ r => r.drop n
theorem Reps.erase : ∀ {ds : List D} {vs : List V} (n : Nat), Reps K F H ds vs → Reps K F H (ds.eraseIdx n) (vs.eraseIdx n)
  | _, _, _, .nil => .nil
  | _, _, 0, .cons _ r => r
  | _, _, n + 1, .cons h r => .cons h (r.erase n)
theorem Reps.reverse : ∀ {ds : List D} {vs : List V}, Reps K F H ds vs → Reps K F H ds.reverse vs.reverse
  | _, _, .nil => .nil
  | _, _, .cons h r => by
    rw [List.reverse_cons, List.reverse_cons]
    exact r.reverse.append (.cons h .nil)
theorem Reps.ints : ∀ (ns : List Int), Reps K F H (ns.map D.int) (ns.map V.int)
  | [] => .nil
  | n :: r => .cons (.int n) (Reps.ints r)
end

/-! ### slots against slots -/
/-- the addresses of the lists that slots own -/
def Own (ρ : En) (σ : St) (a : Addr) : Prop := ∃ (i : Nat) (b : Bool) (ds : List D), ρ[i]? = some (some (.own b ds)) ∧ σ[i]? = some (some (.ref a))
def Fav (F0 : Addr → Prop) (ρ : En) (σ : St) : Addr → Prop := fun a => F0 a ∨ Own ρ σ a
structure Rl (K : PySem.W.Frag) (F0 : Addr → Prop) (ρ : En) (σ : St) (H : Hp) : Prop where
  len : ρ.length = σ.length
  dat : ∀ (i : Nat) (x : D), ρ[i]? = some (some (.d x)) → ∃ v : V, σ[i]? = some (some v) ∧ Rep K (Fav F0 ρ σ) H x v
  own : ∀ (i : Nat) (b : Bool) (ds : List D), ρ[i]? = some (some (.own b ds)) → ∃ (a : Addr) (vs : List V), σ[i]? = some (some (.ref a)) ∧ H a = some (.lst vs) ∧ Reps K (Fav F0 ρ σ) H ds vs ∧ ¬ F0 a
  inj : ∀ (i j : Nat) (b c : Bool) (ds es : List D) (a : Addr), ρ[i]? = some (some (.own b ds)) → ρ[j]? = some (some (.own c es)) → σ[i]? = some (some (.ref a)) → σ[j]? = some (some (.ref a)) → i = j
  alc : ∀ a, F0 a → ∃ o, H a = some o
structure Stp (ρ : En) (σ : St) (H : Hp) (ρ' : En) (σ' : St) (H' : Hp) : Prop where
  keep : ∀ a o, H a = some o → ¬ Own ρ σ a → H' a = some o
  own : ∀ a, Own ρ' σ' a → Own ρ σ a ∨ H a = none
  trk : ∀ a, H' a = none → H a = none
  io : ∀ (i : Nat) (ds : List D), ρ[i]? = some (some (.own true ds)) → σ'[i]? = σ[i]? ∧ ∃ ds' : List D, ρ'[i]? = some (some (.own true ds'))
  len : ρ'.length = ρ.length

theorem Stp.refl (ρ : En) (σ : St) (H : Hp) : Stp ρ σ H ρ σ H := ⟨fun _ _ e _ => e, fun _ h => .inl h, fun _ e => e, fun _ ds e => ⟨rfl, ds, e⟩, rfl⟩
theorem Stp.trans {ρ ρ1 ρ2 : En} {σ σ1 σ2 : St} {H H1 H2 : Hp} (a : Stp ρ σ H ρ1 σ1 H1) (b : Stp ρ1 σ1 H1 ρ2 σ2 H2) : Stp ρ σ H ρ2 σ2 H2 where
  keep := fun c o e n => b.keep c o (a.keep c o e n) fun z => (a.own c z).elim n fun q => by rw [e] at q; cases q
  own := fun c z => (b.own c z).elim (fun q => a.own c q) fun q => .inr (a.trk c q)
  trk := fun c e => a.trk c (b.trk c e)
  io := fun i ds e => by
    obtain ⟨e1, ds1, f1⟩ := a.io i ds e
    obtain ⟨e2, ds2, f2⟩ := b.io i ds1 f1
    exact ⟨e2.trans e1, ds2, f2⟩
  len := b.len.trans a.len
/-- what was data is data -/
theorem Stp.rep {K : PySem.W.Frag} {F0 : Addr → Prop} {ρ ρ' : En} {σ σ' : St} {H H' : Hp} (a : Stp ρ σ H ρ' σ' H') {x : D} {v : V} (h : Rep K (Fav F0 ρ σ) H x v) : Rep K (Fav F0 ρ' σ') H' x v :=
  h.mono (fun c z => z.elim (fun z => .inl (.inl z)) fun z => (a.own c z).elim (fun q => .inl (.inr q)) .inr) fun c o e n => a.keep c o e fun z => n (.inr z)
theorem Stp.reps {K : PySem.W.Frag} {F0 : Addr → Prop} {ρ ρ' : En} {σ σ' : St} {H H' : Hp} (a : Stp ρ σ H ρ' σ' H') {x : List D} {v : List V} (h : Reps K (Fav F0 ρ σ) H x v) : Reps K (Fav F0 ρ' σ') H' x v :=
  h.mono (fun c z => z.elim (fun z => .inl (.inl z)) fun z => (a.own c z).elim (fun q => .inl (.inr q)) .inr) fun c o e n => a.keep c o e fun z => n (.inr z)

section
variable {K : PySem.W.Frag} {F0 : Addr → Prop} {ρ : En} {σ : St} {H H' : Hp}
theorem Rl.fav_alc (R : Rl K F0 ρ σ H) : ∀ a, Fav F0 ρ σ a → ∃ o, H a = some o := fun a h => by
  rcases h with h | ⟨i, b, ds, e, s⟩
  · exact R.alc a h
  · obtain ⟨a', vs, s', h', _⟩ := R.own i b ds e
    rw [s] at s'; cases s'
    exact ⟨_, h'⟩
theorem Rl.not_fav (R : Rl K F0 ρ σ H) {p : Addr} (h : H p = none) : ¬ Fav F0 ρ σ p := fun z => by
  obtain ⟨o, e⟩ := R.fav_alc p z
  rw [h] at e; cases e
/-- all that was tracked is kept -/
theorem Rl.same (R : Rl K F0 ρ σ H) (k : Same H H') : Rl K F0 ρ σ H' := by
  have m : ∀ a, Fav F0 ρ σ a → Fav F0 ρ σ a ∨ H a = none := fun _ z => .inl z
  have m2 : ∀ a o, H a = some o → ¬ Fav F0 ρ σ a → H' a = some o := fun a o e _ => k a o e
  refine ⟨R.len, fun i x e => ?_, fun i b ds e => ?_, R.inj, fun a h => ?_⟩
  · obtain ⟨v, e1, r⟩ := R.dat i x e
    exact ⟨v, e1, r.mono m m2⟩
  · obtain ⟨a, vs, e1, e2, r, n⟩ := R.own i b ds e
    exact ⟨a, vs, e1, k _ _ e2, r.mono m m2, n⟩
  · obtain ⟨o, e⟩ := R.alc a h
    exact ⟨o, k _ _ e⟩
theorem Stp.same (k : Same H H') : Stp ρ σ H ρ σ H' := ⟨fun a o e _ => k a o e, fun _ h => .inl h, fun a e => Same.free k e, fun _ ds e => ⟨rfl, ds, e⟩, rfl⟩
theorem Same.new {p : Addr} (h : H p = none) (o : HO) : Same H (upd H p o) := fun b u q => by rw [upd_ne (ne_of_none q h)]; exact q
/-- fewer addresses to be kept from -/
theorem Rl.less {F1 : Addr → Prop} (R : Rl K F1 ρ σ H) (k : ∀ a, F0 a → F1 a) : Rl K F0 ρ σ H := by
  have m : ∀ a, Fav F0 ρ σ a → Fav F1 ρ σ a ∨ H a = none := fun a z => .inl (z.elim (fun z => .inl (k a z)) .inr)
  have m2 : ∀ a o, H a = some o → ¬ Fav F1 ρ σ a → H a = some o := fun a o e _ => e
  refine ⟨R.len, fun i x e => ?_, fun i b ds e => ?_, R.inj, fun a h => R.alc a (k a h)⟩
  · obtain ⟨v, e1, r⟩ := R.dat i x e
    exact ⟨v, e1, r.mono m m2⟩
  · obtain ⟨a, vs, e1, e2, r, n⟩ := R.own i b ds e
    exact ⟨a, vs, e1, e2, r.mono m m2, fun z => n (k a z)⟩
end

/-! ### readings from runs -/
/-- an exception as it lies: its class, its own dict -/
def ExRep (mg : Str → Option Value) (e : Exn) (cv : Value) (d : Option Addr) (H : Hp) : Prop :=
  mg e.cls = some cv ∧ match e.fld with
    | none => d = none
    | some (f, n) => ∃ a, d = some a ∧ H a = some (.xd [(f, V.int n)])
def plus (F0 : Addr → Prop) (p : Addr) : Addr → Prop := fun a => F0 a ∨ a = p
section
variable (X : Cx) (W : WX)
/-- an expression's outcome: good if it comes to an end, the wish if it raises -/
def Out (F0 : Addr → Prop) (ρ : En) (σ : St) (H : Hp) {α : Type} (good : α → En → Prop) : Rs α → Prop
  | .ok x ρ' => good x ρ'
  | .exc e ρ' => ∀ cv d H', Rl X.K F0 ρ' σ H' → Stp ρ σ H ρ' σ H' → ExRep X.mg e cv d H' → W cv d σ H'
  | .bad => False
def gE (F0 : Addr → Prop) (ρ : En) (σ : St) (H : Hp) (Q : VK) (x : D) (ρ' : En) : Prop :=
  ∀ v H', Rl X.K F0 ρ' σ H' → Stp ρ σ H ρ' σ H' → Rep X.K (Fav F0 ρ' σ) H' x v → Q v H'
def tE (f : M D) : TE := fun σ H Q => ∃ F0 ρ, Rl X.K F0 ρ σ H ∧ Out X W F0 ρ σ H (gE X F0 ρ σ H Q) (f ρ)
/-- a new list that nobody else holds -/
def gF (F0 : Addr → Prop) (ρ : En) (σ : St) (H : Hp) (Q : VK) (ds : List D) (ρ' : En) : Prop :=
  ∀ p vs H', Rl X.K (plus F0 p) ρ' σ H' → Stp ρ σ H ρ' σ H' → H p = none → H' p = some (.lst vs) → Reps X.K (Fav (plus F0 p) ρ' σ) H' ds vs → Q (.ref p) H'
def tF (f : M (List D)) : TE := fun σ H Q => ∃ F0 ρ, Rl X.K F0 ρ σ H ∧ Out X W F0 ρ σ H (gF X F0 ρ σ H Q) (f ρ)
/-- a test -/
def gT (F0 : Addr → Prop) (ρ : En) (σ : St) (H : Hp) (Q : Bool → Hp → Prop) (b : Bool) (ρ' : En) : Prop :=
  ∀ H', Rl X.K F0 ρ' σ H' → Stp ρ σ H ρ' σ H' → Q b H'
def tT (f : M Bool) : TT := fun σ H Q => ∃ F0 ρ, Rl X.K F0 ρ σ H ∧ Out X W F0 ρ σ H (gT X F0 ρ σ H Q) (f ρ)
/-- several data -/
def gA (F0 : Addr → Prop) (ρ : En) (σ : St) (H : Hp) (Q : List V → Hp → Prop) (xs : List D) (ρ' : En) : Prop :=
  ∀ vs H', Rl X.K F0 ρ' σ H' → Stp ρ σ H ρ' σ H' → Reps X.K (Fav F0 ρ' σ) H' xs vs → Q vs H'
def tA (f : M (List D)) : TA := fun σ H Q => ∃ F0 ρ, Rl X.K F0 ρ σ H ∧ Out X W F0 ρ σ H (gA X F0 ρ σ H Q) (f ρ)
/-- statements -/
inductive Flow where
  | nx | bk | ct | rt (x : D) | rf (ds : List D)
def OutS (F0 : Addr → Prop) (ρ : En) (σ : St) (H : Hp) (Ds : Ends) : Rs Flow → Prop
  | .ok .nx ρ' => ∀ σ' H', Rl X.K F0 ρ' σ' H' → Stp ρ σ H ρ' σ' H' → Ds.nx σ' H'
  | .ok .bk ρ' => ∀ σ' H', Rl X.K F0 ρ' σ' H' → Stp ρ σ H ρ' σ' H' → Ds.bk σ' H'
  | .ok .ct ρ' => ∀ σ' H', Rl X.K F0 ρ' σ' H' → Stp ρ σ H ρ' σ' H' → Ds.ct σ' H'
  | .ok (.rt x) ρ' => ∀ v σ' H', Rl X.K F0 ρ' σ' H' → Stp ρ σ H ρ' σ' H' → Rep X.K (Fav F0 ρ' σ') H' x v → Ds.rt v H'
  | .ok (.rf ds) ρ' => ∀ p vs σ' H', Rl X.K (plus F0 p) ρ' σ' H' → Stp ρ σ H ρ' σ' H' → (Own ρ σ p ∨ H p = none) → H' p = some (.lst vs) → Reps X.K (Fav (plus F0 p) ρ' σ') H' ds vs → Ds.rt (.ref p) H'
  | .exc e ρ' => ∀ cv d σ' H', Rl X.K F0 ρ' σ' H' → Stp ρ σ H ρ' σ' H' → ExRep X.mg e cv d H' → W cv d σ' H'
  | .bad => False
def tS (g : M Flow) : TS := fun Ds σ H => ∃ F0 ρ, Rl X.K F0 ρ σ H ∧ OutS X W F0 ρ σ H Ds (g ρ)
end
abbrev SE (X : Cx) (W : WX) (f : M D) (e : Expr) : Prop := PE X e (tE X W f)
abbrev SF (X : Cx) (W : WX) (f : M (List D)) (e : Expr) : Prop := PE X e (tF X W f)
abbrev ST (X : Cx) (W : WX) (f : M Bool) (e : Expr) : Prop := PT X e (tT X W f)
abbrev SW (X : Cx) (W : WX) (f : M Bool) (e : Expr) : Prop := PW X e (tT X W f)
abbrev SA (X : Cx) (W : WX) (f : M (List D)) (es : List Expr) : Prop := PA X es (tA X W f)
abbrev SS (X : Cx) (W : WX) (g : M Flow) (st : Stmt) : Prop := PS X st (tS X W g)
abbrev SSs (X : Cx) (W : WX) (g : M Flow) (st : List Stmt) : Prop := PSs X st (tS X W g)

theorem _root_.L2.PE.imp {X : Cx} {e : Expr} {t t' : TE} (h : PE X e t) (k : ∀ σ H Q, t' σ H Q → t σ H Q) : PE X e t' := ⟨fun pins s σ H Q I q => h.run pins s σ H Q I (k _ _ _ q)⟩
theorem _root_.L2.PT.imp {X : Cx} {e : Expr} {t t' : TT} (h : PT X e t) (k : ∀ σ H Q, t' σ H Q → t σ H Q) : PT X e t' := ⟨fun pins s σ H Q I q => h.run pins s σ H Q I (k _ _ _ q)⟩
theorem _root_.L2.PW.imp {X : Cx} {e : Expr} {t t' : TT} (h : PW X e t) (k : ∀ σ H Q, t' σ H Q → t σ H Q) : PW X e t' := ⟨fun wh pins s σ H Q I q => h.run wh pins s σ H Q I (k _ _ _ q)⟩
theorem _root_.L2.PA.imp {X : Cx} {e : List Expr} {t t' : TA} (h : PA X e t) (k : ∀ σ H Q, t' σ H Q → t σ H Q) : PA X e t' := ⟨fun pos pins s σ H Q I q => h.run pos pins s σ H Q I (k _ _ _ q)⟩
theorem _root_.L2.PS.imp {X : Cx} {e : Stmt} {t t' : TS} (h : PS X e t) (k : ∀ D σ H, t' D σ H → t D σ H) : PS X e t' := ⟨fun pins s σ H D I q => h.run pins s σ H D I (k _ _ _ q)⟩
theorem _root_.L2.PSs.imp {X : Cx} {e : List Stmt} {t t' : TS} (h : PSs X e t) (k : ∀ D σ H, t' D σ H → t D σ H) : PSs X e t' := ⟨fun pins s σ H D I q => h.run pins s σ H D I (k _ _ _ q)⟩

/-! ### how outcomes are put one behind another -/
section
variable {X : Cx} {W : WX} {F0 : Addr → Prop} {ρ ρ1 : En} {σ : St} {H H1 : Hp} {α β : Type} {good : α → En → Prop}
/-- from a later state -/
theorem Out.step (S : Stp ρ σ H ρ1 σ H1) {r : Rs α} (o : Out X W F0 ρ σ H good r) : Out X W F0 ρ1 σ H1 good r := by
  cases r with
  | ok x ρ' => exact o
  | exc e ρ' => exact fun cv d H' R T x => o cv d H' R (S.trans T) x
  | bad => exact o
theorem Out.imp {good' : α → En → Prop} {r : Rs α} (o : Out X W F0 ρ σ H good r) (k : ∀ x ρ', good x ρ' → good' x ρ') : Out X W F0 ρ σ H good' r := by
  cases r with
  | ok x ρ' => exact k _ _ o
  | exc e ρ' => exact o
  | bad => exact o
theorem Out.bind {f : M β} {g : β → M α} (o : Out X W F0 ρ σ H good (mbind f g ρ)) : Out X W F0 ρ σ H (fun x ρ' => Out X W F0 ρ σ H good (g x ρ')) (f ρ) := by
  unfold mbind at o
  cases e : f ρ with
  | ok x ρ' => rw [e] at o; exact o
  | exc x ρ' => rw [e] at o; exact o
  | bad => rw [e] at o; exact o
theorem Out.opt {o : Option α} (h : Out X W F0 ρ σ H good (mopt o ρ1)) : ∃ x, o = some x ∧ good x ρ1 := by
  cases o with
  | none => exact h.elim
  | some x => exact ⟨x, rfl, h⟩
/-- an expression first, then the rest -/
theorem seqE {f : M D} {g : D → M α} {Q : VK} (R : Rl X.K F0 ρ σ H) (o : Out X W F0 ρ σ H good (mbind f g ρ))
    (k : ∀ x ρ1 v H1, Rl X.K F0 ρ1 σ H1 → Stp ρ σ H ρ1 σ H1 → Rep X.K (Fav F0 ρ1 σ) H1 x v → Out X W F0 ρ1 σ H1 good (g x ρ1) → Q v H1) : tE X W f σ H Q :=
  ⟨F0, ρ, R, o.bind.imp fun x ρ1 o1 v H1 R1 S1 r1 => k x ρ1 v H1 R1 S1 r1 (o1.step S1)⟩
theorem seqT {f : M Bool} {g : Bool → M α} {Q : Bool → Hp → Prop} (R : Rl X.K F0 ρ σ H) (o : Out X W F0 ρ σ H good (mbind f g ρ))
    (k : ∀ x ρ1 H1, Rl X.K F0 ρ1 σ H1 → Stp ρ σ H ρ1 σ H1 → Out X W F0 ρ1 σ H1 good (g x ρ1) → Q x H1) : tT X W f σ H Q :=
  ⟨F0, ρ, R, o.bind.imp fun x ρ1 o1 H1 R1 S1 => k x ρ1 H1 R1 S1 (o1.step S1)⟩
theorem seqA {f : M (List D)} {g : List D → M α} {Q : List V → Hp → Prop} (R : Rl X.K F0 ρ σ H) (o : Out X W F0 ρ σ H good (mbind f g ρ))
    (k : ∀ x ρ1 v H1, Rl X.K F0 ρ1 σ H1 → Stp ρ σ H ρ1 σ H1 → Reps X.K (Fav F0 ρ1 σ) H1 x v → Out X W F0 ρ1 σ H1 good (g x ρ1) → Q v H1) : tA X W f σ H Q :=
  ⟨F0, ρ, R, o.bind.imp fun x ρ1 o1 v H1 R1 S1 r1 => k x ρ1 v H1 R1 S1 r1 (o1.step S1)⟩
theorem seqF {f : M (List D)} {g : List D → M α} {Q : VK} (R : Rl X.K F0 ρ σ H) (o : Out X W F0 ρ σ H good (mbind f g ρ))
    (k : ∀ x ρ1 p vs H1, Rl X.K (plus F0 p) ρ1 σ H1 → Stp ρ σ H ρ1 σ H1 → H p = none → H1 p = some (.lst vs) → Reps X.K (Fav (plus F0 p) ρ1 σ) H1 x vs → Out X W F0 ρ1 σ H1 good (g x ρ1) → Q (.ref p) H1) : tF X W f σ H Q :=
  ⟨F0, ρ, R, o.bind.imp fun x ρ1 o1 p vs H1 R1 S1 hp hv r1 => k x ρ1 p vs H1 R1 S1 hp hv r1 (o1.step S1)⟩
/-- the last one -/
theorem endE {f : M D} {Q : VK} {ρ0 : En} {H0 : Hp} (R : Rl X.K F0 ρ σ H) (S : Stp ρ0 σ H0 ρ σ H) (o : Out X W F0 ρ σ H (gE X F0 ρ0 σ H0 Q) (f ρ)) : tE X W f σ H Q :=
  ⟨F0, ρ, R, o.imp fun x ρ1 o1 v H1 R1 S1 r1 => o1 v H1 R1 (S.trans S1) r1⟩
end
end Z

namespace Z
open PySem L2

/-! ### what a value is -/
section
variable {K : PySem.W.Frag} {F : Addr → Prop} {H : Hp} {v : V}
theorem Rep.v_int {i : Int} (h : Rep K F H (.int i) v) : v = .int i := by cases h; rfl
theorem Rep.v_bl {i : Bool} (h : Rep K F H (.bl i) v) : v = .bl i := by cases h; rfl
theorem Rep.v_str {i : Str} (h : Rep K F H (.str i) v) : v = .str i := by cases h; rfl
theorem Rep.v_non (h : Rep K F H .non v) : v = .non := by cases h; rfl
theorem Rep.v_tup {ds : List D} (h : Rep K F H (.tup ds) v) : ∃ a vs, v = .ref a ∧ SqT K H a vs ∧ Reps K F H ds vs := by
  cases h with
  | tup h n r => exact ⟨_, _, rfl, h, r⟩
theorem Rep.v_lst {ds : List D} (h : Rep K F H (.lst ds) v) : ∃ a vs, v = .ref a ∧ SqL K H a vs ∧ Reps K F H ds vs := by
  cases h with
  | lst h n r => exact ⟨_, _, rfl, SqL.of h, r⟩
theorem Rep.v_kls {ds : List D} (h : Rep K F H (.kls ds) v) : ∃ a vs, v = .ref a ∧ SqL K H a vs ∧ Reps K F H ds vs := by
  cases h with
  | kls h n r => exact ⟨_, _, rfl, h, r⟩
/-- as data, or a list that is looked at for the while -/
def Bor (K : PySem.W.Frag) (F : Addr → Prop) (H : Hp) (d : D) (v : V) : Prop := match d with
  | .lst ds => ∃ a vs, v = .ref a ∧ H a = some (.lst vs) ∧ Reps K F H ds vs
  | d => Rep K F H d v
theorem Rep.bor {d : D} (h : Rep K F H d v) : Bor K F H d v := by
  cases h with
  | lst h n r => exact ⟨_, _, rfl, h, r⟩
  | non => exact .non
  | bl b => exact .bl b
  | int i => exact .int i
  | str i => exact .str i
  | tup h n r => exact .tup h n r
  | kls h n r => exact .kls h n r
theorem Bor.of {a : Addr} {vs : List V} {ds : List D} (h : H a = some (.lst vs)) (r : Reps K F H ds vs) : Bor K F H (.lst ds) (.ref a) := ⟨a, vs, rfl, h, r⟩
theorem Bor.v_int {i : Int} (h : Bor K F H (.int i) v) : v = .int i := Rep.v_int h
theorem Bor.v_bl {i : Bool} (h : Bor K F H (.bl i) v) : v = .bl i := Rep.v_bl h
theorem Bor.v_str {i : Str} (h : Bor K F H (.str i) v) : v = .str i := Rep.v_str h
theorem Bor.v_non (h : Bor K F H .non v) : v = .non := Rep.v_non h
theorem Bor.v_tup {ds : List D} (h : Bor K F H (.tup ds) v) : ∃ a vs, v = .ref a ∧ SqT K H a vs ∧ Reps K F H ds vs := Rep.v_tup h
theorem Bor.v_lstH {ds : List D} (h : Bor K F H (.lst ds) v) : ∃ a vs, v = .ref a ∧ H a = some (.lst vs) ∧ Reps K F H ds vs := h
theorem Bor.v_lst {ds : List D} (h : Bor K F H (.lst ds) v) : ∃ a vs, v = .ref a ∧ SqL K H a vs ∧ Reps K F H ds vs := by
  obtain ⟨a, vs, e, h, r⟩ := h
  exact ⟨a, vs, e, SqL.of h, r⟩
theorem Bor.v_kls {ds : List D} (h : Bor K F H (.kls ds) v) : ∃ a vs, v = .ref a ∧ SqL K H a vs ∧ Reps K F H ds vs := Rep.v_kls h
def isNonD : D → Bool
  | .non => true
  | _ => false
theorem Bor.nn {d : D} (h : Bor K F H d v) : decide (v = .non) = isNonD d := by
  cases d with
  | non => rw [h.v_non]; rfl
  | bl b => rw [h.v_bl]; rfl
  | int b => rw [h.v_int]; rfl
  | str b => rw [h.v_str]; rfl
  | tup b => obtain ⟨a, vs, rfl, _⟩ := h.v_tup; rfl
  | lst b => obtain ⟨a, vs, rfl, _⟩ := h.v_lst; rfl
  | kls b => obtain ⟨a, vs, rfl, _⟩ := h.v_kls; rfl
end

/-! ### names and constants -/
def mvar (i : Nat) : M D := fun ρ => match ρ[i]? with
  | some (some (.d x)) => .ok x ρ
  | _ => .bad
/-- the list that slot i owns is given away: it stays as data -/
def mval (i : Nat) : M D := fun ρ => match ρ[i]? with
  | some (some (.d x)) => .ok x (ρ.set i (some (.d x)))
  | some (some (.own false ds)) => .ok (.lst ds) (ρ.set i (some (.d (.lst ds))))
  | _ => .bad
section
variable {X : Cx} {W : WX}
theorem se_pure {e : Expr} {v : V} {x : D} (h : PE X e (tC v)) (r : ∀ F H, Rep X.K F H x v) : SE X W (mpure x) e :=
  h.imp fun σ H Q ⟨F0, ρ, R, o⟩ => o v H R (Stp.refl ρ σ H) (r _ H)
theorem se_int {i j pos} : SE X W (mpure (.int i)) (.Constant (.int i) j pos) := se_pure pe_int fun _ _ => .int i
theorem se_bl {i j pos} : SE X W (mpure (.bl i)) (.Constant (.bool i) j pos) := se_pure pe_bl fun _ _ => .bl i
theorem se_str {i j pos} : SE X W (mpure (.str i)) (.Constant (.str i) j pos) := se_pure pe_str fun _ _ => .str i
theorem se_non {j pos} : SE X W (mpure .non) (.Constant .none j pos) := se_pure pe_non fun _ _ => .non
theorem se_var {i : Nat} {e : Expr} (h : PE X e (tVar i)) : SE X W (mvar i) e := h.imp fun σ H Q ⟨F0, ρ, R, o⟩ => by
  unfold mvar at o
  split at o
  · rename_i x e
    obtain ⟨v, e1, r⟩ := R.dat i x e
    exact ⟨v, e1, o v H R (Stp.refl ρ σ H) r⟩
  · exact o.elim

theorem own_set {ρ : En} {σ : St} {i : Nat} {x : D} {a : Addr} (h : Own (ρ.set i (some (.d x))) σ a) : ∃ (j : Nat) (b : Bool) (ds : List D), j ≠ i ∧ ρ[j]? = some (some (.own b ds)) ∧ σ[j]? = some (some (.ref a)) := by
  obtain ⟨j, b, ds, e, s⟩ := h
  by_cases hj : j = i
  · subst hj
    rw [List.getElem?_set] at e
    split at e
    · split at e
      · cases e
      · cases e
    · rename_i hn; exact absurd rfl hn
  · rw [List.getElem?_set_ne (Ne.symm hj)] at e
    exact ⟨j, b, ds, hj, e, s⟩
theorem se_val {i : Nat} {e : Expr} (h : PE X e (tVar i)) : SE X W (mval i) e := h.imp fun σ H Q ⟨F0, ρ, R, o⟩ => by
  unfold mval at o
  split at o
  · rename_i x e
    obtain ⟨v, e1, r⟩ := R.dat i x e
    have same : ρ.set i (some (.d x)) = ρ := by
      apply List.ext_getElem?
      intro j
      rw [List.getElem?_set]
      split
      · rename_i ej
        subst ej
        rw [if_pos (List.getElem?_eq_some_iff.mp e).1, e]
      · rfl
    rw [same] at o
    exact ⟨v, e1, o v H R (Stp.refl ρ σ H) r⟩
  · rename_i ds e
    obtain ⟨a, vs, e1, e2, r, n⟩ := R.own i false ds e
    have hi : i < ρ.length := (List.getElem?_eq_some_iff.mp e).1
    have less : ∀ c, Own (ρ.set i (some (.d (.lst ds)))) σ c → Own ρ σ c := fun c hc => by
      obtain ⟨j, b, es, _, e, s⟩ := own_set hc
      exact ⟨j, b, es, e, s⟩
    have na : ¬ Own (ρ.set i (some (.d (.lst ds)))) σ a := fun hc => by
      obtain ⟨j, b, es, ne, e', s⟩ := own_set hc
      exact ne (R.inj j i b false es ds a e' e s e1)
    have m : ∀ c, Fav F0 (ρ.set i (some (.d (.lst ds)))) σ c → Fav F0 ρ σ c ∨ H c = none := fun c z => .inl (z.imp id (less c))
    have m2 : ∀ c o, H c = some o → ¬ Fav F0 ρ σ c → H c = some o := fun _ _ e _ => e
    have rep : Rep X.K (Fav F0 (ρ.set i (some (.d (.lst ds)))) σ) H (.lst ds) (.ref a) := .lst e2 (fun z => z.elim n na) (r.mono m m2)
    have get : ∀ (j : Nat) (u : SV), j ≠ i → (ρ.set i (some (.d (.lst ds))))[j]? = some (some u) → ρ[j]? = some (some u) := fun j u hj e => by
      rw [List.getElem?_set_ne (Ne.symm hj)] at e; exact e
    refine ⟨_, e1, o _ H ⟨?_, fun j x ej => ?_, fun j b es ej => ?_, fun j k b c es fs q ej ek sj sk => ?_, R.alc⟩ ⟨fun _ _ e _ => e, fun c hc => .inl (less c hc), fun _ e => e, fun j es ej => ?_, ?_⟩ rep⟩
    · rw [List.length_set]; exact R.len
    · by_cases hj : j = i
      · subst hj
        rw [List.getElem?_set_self hi] at ej
        cases ej
        exact ⟨_, e1, rep⟩
      · obtain ⟨v, f1, f2⟩ := R.dat j x (get j _ hj ej)
        exact ⟨v, f1, f2.mono m m2⟩
    · by_cases hj : j = i
      · subst hj
        rw [List.getElem?_set_self hi] at ej
        cases ej
      · obtain ⟨b', ws, f1, f2, f3, f4⟩ := R.own j b es (get j _ hj ej)
        exact ⟨b', ws, f1, f2, f3.mono m m2, f4⟩
    · have hj : j ≠ i := fun z => by subst z; rw [List.getElem?_set_self hi] at ej; cases ej
      have hk : k ≠ i := fun z => by subst z; rw [List.getElem?_set_self hi] at ek; cases ek
      exact R.inj j k b c es fs q (get j _ hj ej) (get k _ hk ek) sj sk
    · have hj : j ≠ i := fun z => by subst z; rw [e] at ej; cases ej
      exact ⟨rfl, es, by rw [List.getElem?_set_ne (Ne.symm hj)]; exact ej⟩
    · rw [List.length_set]
  · exact o.elim
/-- a new list as data -/
theorem SF.se {f : M (List D)} {e : Expr} (h : SF X W f e) : SE X W (mbind f fun ds => mpure (.lst ds)) e := h.imp fun σ H Q ⟨F0, ρ, R, o⟩ =>
  seqF R o fun ds ρ1 p vs H1 R1 S1 hp hv r1 o1 => by
    have np : ¬ Own ρ1 σ p := fun ⟨i, b, es, e, s⟩ => by
      obtain ⟨a, ws, e1, _, _, n⟩ := R1.own i b es e
      rw [s] at e1; cases e1
      exact n (.inr rfl)
    have np0 : ¬ F0 p := fun z => by
      obtain ⟨o, e⟩ := R.alc p z
      rw [hp] at e; cases e
    have less : ∀ a, Fav F0 ρ1 σ a → Fav (plus F0 p) ρ1 σ a ∨ H1 a = none := fun a z => .inl (z.imp .inl id)
    exact o1 _ H1 (R1.less fun a z => .inl z) S1 (.lst hv (fun z => z.elim np0 np) (r1.mono less fun _ _ e _ => e))
end

/-! ### two operands -/
/-- the list that slot i owns, as it stands -/
def mown (i : Nat) : M (List D) := fun ρ => match ρ[i]? with
  | some (some (.own _ ds)) => .ok ds ρ
  | _ => .bad
/-- what stands in slot i, looked at -/
def mget (i : Nat) : M D := fun ρ => match ρ[i]? with
  | some (some (.own _ ds)) => .ok (.lst ds) ρ
  | some (some (.d x)) => .ok x ρ
  | _ => .bad
/-- an operand: a value, or what stands in a slot, looked at -/
inductive Opd where
  | val (f : M D) | slot (i : Nat)
def tO (X : Cx) (W : WX) : Opd → TE
  | .val f => tE X W f
  | .slot i => tVar i
abbrev SO (X : Cx) (W : WX) (o : Opd) (e : Expr) : Prop := PE X e (tO X W o)
section
variable {X : Cx} {W : WX} {f g : M D} {a b : Expr} {pos : Pos}
theorem SE.so (h : SE X W f a) : SO X W (.val f) a := h
theorem so_slot {i : Nat} (h : PE X a (tVar i)) : SO X W (.slot i) a := h
theorem own_at {α : Type} {F0 : Addr → Prop} {ρ ρ0 : En} {σ : St} {H H0 : Hp} {good : α → En → Prop} {i : Nat} {k : List D → M α} (R : Rl X.K F0 ρ σ H) (o : Out X W F0 ρ0 σ H0 good (mbind (mown i) k ρ)) :
    ∃ a vs ds, σ[i]? = some (some (.ref a)) ∧ H a = some (.lst vs) ∧ Reps X.K (Fav F0 ρ σ) H ds vs ∧ Out X W F0 ρ0 σ H0 good (k ds ρ) := by
  unfold mbind mown at o
  split at o
  · rename_i x ρ' e
    split at e
    · rename_i b ds e1
      cases e
      obtain ⟨a, vs, e2, e3, r, _⟩ := R.own i b _ e1
      exact ⟨a, vs, _, e2, e3, r, o⟩
    · cases e
  · rename_i e
    split at e <;> cases e
  · exact o.elim
theorem own_sl {α : Type} {F0 : Addr → Prop} {ρ ρ0 : En} {σ : St} {H H0 : Hp} {good : α → En → Prop} {i : Nat} {k : List D → M α} (o : Out X W F0 ρ0 σ H0 good (mbind (mown i) k ρ)) : ∃ b ds, ρ[i]? = some (some (.own b ds)) := by
  unfold mbind mown at o
  split at o
  · rename_i x ρ' e
    split at e
    · rename_i b ds e1
      exact ⟨b, ds, e1⟩
    · cases e
  · rename_i e
    split at e <;> cases e
  · exact o.elim
theorem get_at {α : Type} {F0 : Addr → Prop} {ρ ρ0 : En} {σ : St} {H H0 : Hp} {good : α → En → Prop} {i : Nat} {k : D → M α} (R : Rl X.K F0 ρ σ H) (o : Out X W F0 ρ0 σ H0 good (mbind (mget i) k ρ)) :
    ∃ v x, σ[i]? = some (some v) ∧ Bor X.K (Fav F0 ρ σ) H x v ∧ Out X W F0 ρ0 σ H0 good (k x ρ) := by
  unfold mbind mget at o
  split at o
  · rename_i x ρ' e
    split at e
    · rename_i b ds e1
      cases e
      obtain ⟨a, vs, e2, e3, r, _⟩ := R.own i b _ e1
      exact ⟨_, _, e2, Bor.of e3 r, o⟩
    · rename_i y e1
      cases e
      obtain ⟨v, e2, r⟩ := R.dat i _ e1
      exact ⟨v, _, e2, r.bor, o⟩
    · cases e
  · rename_i e
    split at e <;> cases e
  · exact o.elim
def mop2 (sem : D → D → Option D) : Opd → Opd → M D
  | .val f, .val g => mbind f fun x => mbind g fun y => mopt (sem x y)
  | .slot i, .val g => mbind (mget i) fun _ => mbind g fun y => mbind (mget i) fun x => mopt (sem x y)
  | .val f, .slot j => mbind f fun x => mbind (mget j) fun y => mopt (sem x y)
  | .slot i, .slot j => mbind (mget i) fun x => mbind (mget j) fun y => mopt (sem x y)
def mop1 (sem : D → Option D) : Opd → M D
  | .val f => mbind f fun x => mopt (sem x)
  | .slot i => mbind (mget i) fun x => mopt (sem x)
/-- an operation's rule answers as sem does -/
def Sem2 (X : Cx) (r : R2) (sem : D → D → Option D) : Prop := ∀ {F : Addr → Prop} {H : Hp} {x y z : D} {v u : V} {Q : VK}, (∀ a, F a → ∃ o, H a = some o) → Bor X.K F H x v → Bor X.K F H y u → sem x y = some z →
  (∀ w H', Same H H' → Rep X.K F H' z w → Q w H') → r v u H Q
/-- two operands: what holds of both where the operation is done -/
theorem opd2 {α : Type} {r : V → V → Hp → Prop} {F0 : Addr → Prop} {ρ : En} {σ : St} {H : Hp} {good : α → En → Prop} {k : D → D → M α} {p q : Opd} (R : Rl X.K F0 ρ σ H)
    (o : Out X W F0 ρ σ H good ((match p, q with
      | .val f, .val g => mbind f fun x => mbind g fun y => k x y
      | .slot i, .val g => mbind (mget i) fun _ => mbind g fun y => mbind (mget i) fun x => k x y
      | .val f, .slot j => mbind f fun x => mbind (mget j) fun y => k x y
      | .slot i, .slot j => mbind (mget i) fun x => mbind (mget j) fun y => k x y : M α) ρ))
    (h : ∀ x y ρ2 v u H2, Rl X.K F0 ρ2 σ H2 → Stp ρ σ H ρ2 σ H2 → Bor X.K (Fav F0 ρ2 σ) H2 x v → Bor X.K (Fav F0 ρ2 σ) H2 y u → Out X W F0 ρ2 σ H2 good (k x y ρ2) → r v u H2) : tO X W p σ H fun v H1 => tO X W q σ H1 fun u H2 => r v u H2 := by
  cases p with
  | val f =>
    cases q with
    | val g =>
      exact seqE R o fun x ρ1 v H1 R1 S1 r1 o1 => seqE R1 o1 fun y ρ2 u H2 R2 S2 r2 o2 => h x y ρ2 v u H2 R2 (S1.trans S2) (S2.rep r1).bor r2.bor o2
    | slot j =>
      exact seqE R o fun x ρ1 v H1 R1 S1 r1 o1 => by
        obtain ⟨u, y, e1, b2, o2⟩ := get_at R1 o1
        exact ⟨_, e1, h x y ρ1 v u H1 R1 S1 r1.bor b2 o2⟩
  | slot i =>
    cases q with
    | val g =>
      obtain ⟨v, x, e1, b1, o1⟩ := get_at R o
      refine ⟨_, e1, ?_⟩
      exact seqE R o1 fun y ρ2 u H2 R2 S2 r2 o2 => by
        obtain ⟨v', x', e1', b1', o3⟩ := get_at R2 o2
        rw [e1] at e1'; cases e1'
        exact h x' y ρ2 v u H2 R2 S2 b1' r2.bor o3
    | slot j =>
      obtain ⟨v, x, e1, b1, o1⟩ := get_at R o
      obtain ⟨u, y, f1, b2, o2⟩ := get_at R o1
      exact ⟨_, e1, _, f1, h x y ρ v u H R (Stp.refl _ _ _) b1 b2 o2⟩
theorem opd1 {α : Type} {r : V → Hp → Prop} {F0 : Addr → Prop} {ρ : En} {σ : St} {H : Hp} {good : α → En → Prop} {k : D → M α} {p : Opd} (R : Rl X.K F0 ρ σ H)
    (o : Out X W F0 ρ σ H good ((match p with
      | .val f => mbind f fun x => k x
      | .slot i => mbind (mget i) fun x => k x : M α) ρ))
    (h : ∀ x ρ2 v H2, Rl X.K F0 ρ2 σ H2 → Stp ρ σ H ρ2 σ H2 → Bor X.K (Fav F0 ρ2 σ) H2 x v → Out X W F0 ρ2 σ H2 good (k x ρ2) → r v H2) : tO X W p σ H r := by
  cases p with
  | val f => exact seqE R o fun x ρ1 v H1 R1 S1 r1 o1 => h x ρ1 v H1 R1 S1 r1.bor o1
  | slot i =>
    obtain ⟨v, x, e1, b1, o1⟩ := get_at R o
    exact ⟨_, e1, h x ρ v H R (Stp.refl _ _ _) b1 o1⟩
theorem op2_of {r : R2} {sem : D → D → Option D} (h : Sem2 X r sem) {p q : Opd} : ∀ σ H Q, tE X W (mop2 sem p q) σ H Q → tOp r (tO X W p) (tO X W q) σ H Q := fun σ H Q ⟨F0, ρ, R, o⟩ =>
  opd2 (k := fun x y => mopt (sem x y)) (good := gE X F0 ρ σ H Q) R (by cases p <;> cases q <;> exact o) fun x y ρ2 v u H2 R2 S2 b1 b2 o2 => by
    obtain ⟨z, e, q⟩ := Out.opt o2
    exact h R2.fav_alc b1 b2 e fun w H3 k r3 => q w H3 (R2.same k) (S2.trans (Stp.same k)) r3
theorem se_op {op : Operator} {r : R2} {sem : D → D → Option D} (ho : OpR X (binaryOp op) r) (h : Sem2 X r sem) {p q : Opd} (ha : SO X W p a) (hb : SO X W q b) : SE X W (mop2 sem p q) (.BinOp a op b pos) := (pe_op ho ha hb).imp (op2_of h)
theorem se_cmp {op : CmpOp} {r : R2} {sem : D → D → Option D} (ho : OpR X (compareOp op) r) (h : Sem2 X r sem) {p q : Opd} (ha : SO X W p a) (hb : SO X W q b) (hm : behindInMarks op b = false) : SE X W (mop2 sem p q) (.Compare a [op] [b] pos) := (pe_cmpR ho ha hb hm).imp (op2_of h)
/-- .. as a test -/
def toB : D → Option Bool
  | .bl b => some b
  | _ => none
theorem toB_of {K : PySem.W.Frag} {F : Addr → Prop} {H : Hp} {x : D} {v : V} {c : Bool} (r : Rep K F H x v) (e : toB x = some c) : v = .bl c := by
  cases r <;> first | (cases e; rfl) | cases e
def mbool (f : M D) : M Bool := mbind f fun x => mopt (toB x)
theorem st_cmp {op : CmpOp} {r : R2} {sem : D → D → Option D} (ho : OpR X (compareOp op) r) (h : Sem2 X r sem) {p q : Opd} (ha : SO X W p a) (hb : SO X W q b) (hm : behindInMarks op b = false) : ST X W (mbool (mop2 sem p q)) (.Compare a [op] [b] pos) :=
  (pt_cmpR ho ha hb hm).imp fun σ H Q ⟨F0, ρ, R, o⟩ => by
    refine op2_of h σ H _ (seqE R o fun x ρ1 v H1 R1 S1 r1 o1 => ?_)
    obtain ⟨k, e, q⟩ := Out.opt o1
    exact ⟨k, toB_of r1 e, q H1 R1 S1⟩
/-- a value's truth -/
def truD : D → Option Bool
  | .non => some false
  | .bl b => some b
  | .int i => some (i != 0)
  | .str x => if x.length ≤ sizeLine then some ((x.length : Int) != 0) else none
  | .tup ds => some (!ds.isEmpty)
  | .lst ds => some (!ds.isEmpty)
  | .kls ds => some (!ds.isEmpty)
theorem reps_empty {K : PySem.W.Frag} {F : Addr → Prop} {H : Hp} {ds : List D} {vs : List V} (r : Reps K F H ds vs) : ds.isEmpty = vs.isEmpty := by cases r <;> rfl
theorem tru_of {F : Addr → Prop} {H : Hp} {x : D} {v : V} {k : Bool} (r : Bor X.K F H x v) (e : truD x = some k) : TruV X.K v H k := by
  cases x with
  | non => cases e; rw [r.v_non]; rfl
  | bl b => cases e; rw [r.v_bl]; rfl
  | int i => cases e; rw [r.v_int]; rfl
  | str y =>
    rw [r.v_str]
    have e : (if y.length ≤ sizeLine then some ((y.length : Int) != 0) else none) = some k := e
    split at e
    · rename_i hz; cases e; exact ⟨hz, rfl⟩
    · cases e
  | tup ds => cases e; obtain ⟨a, vs, rfl, h, r⟩ := r.v_tup; exact .inr (.inl ⟨_, h, by rw [reps_empty r]⟩)
  | lst ds => cases e; obtain ⟨a, vs, rfl, h, r⟩ := r.v_lst; exact .inl ⟨_, h, by rw [reps_empty r]⟩
  | kls ds => cases e; obtain ⟨a, vs, rfl, h, r⟩ := r.v_kls; exact .inl ⟨_, h, by rw [reps_empty r]⟩
def mtru : Opd → M Bool
  | .val f => mbind f fun x => mopt (truD x)
  | .slot i => mbind (mget i) fun x => mopt (truD x)
theorem st_tru {p : Opd} (ha : SO X W p a) (he : ∀ whole, isTrue a X.env whole = (do let v ← whole; standAt a.pos; holding [v] (truthy v))) : ST X W (mtru p) a :=
  (pt_truth ha he).imp fun σ H Q ⟨F0, ρ, R, o⟩ => opd1 (k := fun x => mopt (truD x)) (good := gT X F0 ρ σ H Q) R (by cases p <;> exact o) fun x ρ2 v H2 R2 S2 b1 o2 => by
    obtain ⟨k, e, q⟩ := Out.opt o2
    exact ⟨k, tru_of b1 e, q H2 R2 S2⟩
/-! and, or, not -/
variable {p q : M Bool} {rest : List Expr}
def mand (p q : M Bool) : M Bool := mbind p fun c => if c = true then q else mpure false
def mor (p q : M Bool) : M Bool := mbind p fun c => if c = true then mpure true else q
def mnot (p : M Bool) : M Bool := mbind p fun c => mpure (!c)
theorem sw_and1 (ha : ST X W p a) : SW X W p (.BoolOp .And [a] pos) := pw_and1 ha
theorem sw_or1 (ha : ST X W p a) : SW X W p (.BoolOp .Or [a] pos) := pw_or1 ha
theorem endT {p : M Bool} {F0 : Addr → Prop} {ρ ρ0 : En} {σ : St} {H H0 : Hp} {Q : Bool → Hp → Prop} (R : Rl X.K F0 ρ σ H) (S : Stp ρ0 σ H0 ρ σ H) (o : Out X W F0 ρ σ H (gT X F0 ρ0 σ H0 Q) (p ρ)) : tT X W p σ H Q :=
  ⟨F0, ρ, R, o.imp fun x ρ1 o1 H1 R1 S1 => o1 H1 R1 (S.trans S1)⟩
theorem sw_and (ha : ST X W p a) (hb : SW X W q (.BoolOp .And (b :: rest) pos)) : SW X W (mand p q) (.BoolOp .And (a :: b :: rest) pos) := (pw_and ha hb).imp fun σ H Q ⟨F0, ρ, R, o⟩ =>
  seqT R o fun c ρ1 H1 R1 S1 o1 => by
    cases c with
    | true => exact iteT (endT R1 S1 o1)
    | false => exact iteF (o1 H1 R1 S1)
theorem sw_or (ha : ST X W p a) (hb : SW X W q (.BoolOp .Or (b :: rest) pos)) : SW X W (mor p q) (.BoolOp .Or (a :: b :: rest) pos) := (pw_or ha hb).imp fun σ H Q ⟨F0, ρ, R, o⟩ =>
  seqT R o fun c ρ1 H1 R1 S1 o1 => by
    cases c with
    | true => exact iteT (o1 H1 R1 S1)
    | false => exact iteF (endT R1 S1 o1)
theorem SW.st {e : Expr} (h : SW X W p e) : ST X W p e := PW.pt h
theorem st_not (ha : ST X W p a) : ST X W (mnot p) (.UnaryOp .Not a pos) := (pt_not ha).imp fun σ H Q ⟨F0, ρ, R, o⟩ => seqT R o fun c ρ1 H1 R1 S1 o1 => o1 H1 R1 S1
/-- .. as values -/
def mandV (f g : M D) : M D := mbind f fun x => mbind (mopt (toB x)) fun c => if c = true then g else mpure (.bl false)
def morV (f g : M D) : M D := mbind f fun x => mbind (mopt (toB x)) fun c => if c = true then mpure (.bl true) else g
def mnotV (f : M D) : M D := mbind f fun x => mbind (mopt (toB x)) fun c => mpure (.bl (!c))
theorem se_one {op} (ha : SE X W f a) : SE X W f (.BoolOp op [a] pos) := pe_one ha
theorem se_and (ha : SE X W f a) (hb : SE X W g (.BoolOp .And (b :: rest) pos)) : SE X W (mandV f g) (.BoolOp .And (a :: b :: rest) pos) := (pe_and ha hb).imp fun σ H Q ⟨F0, ρ, R, o⟩ =>
  seqE R o fun x ρ1 v H1 R1 S1 r1 o1 => by
    obtain ⟨c, e, o2⟩ := Out.opt (Out.bind o1)
    refine ⟨c, toB_of r1 e, ?_⟩
    cases c with
    | true => exact iteT (endE R1 S1 o2)
    | false => exact iteF (o2 _ H1 R1 S1 (.bl false))
theorem se_or (ha : SE X W f a) (hb : SE X W g (.BoolOp .Or (b :: rest) pos)) : SE X W (morV f g) (.BoolOp .Or (a :: b :: rest) pos) := (pe_or ha hb).imp fun σ H Q ⟨F0, ρ, R, o⟩ =>
  seqE R o fun x ρ1 v H1 R1 S1 r1 o1 => by
    obtain ⟨c, e, o2⟩ := Out.opt (Out.bind o1)
    refine ⟨c, toB_of r1 e, ?_⟩
    cases c with
    | true => exact iteT (o2 _ H1 R1 S1 (.bl true))
    | false => exact iteF (endE R1 S1 o2)
theorem se_not (ha : SE X W f a) : SE X W (mnotV f) (.UnaryOp .Not a pos) := (pe_not ha).imp fun σ H Q ⟨F0, ρ, R, o⟩ =>
  seqE R o fun x ρ1 v H1 R1 S1 r1 o1 => by
    obtain ⟨c, e, o2⟩ := Out.opt (Out.bind o1)
    exact ⟨c, toB_of r1 e, o2 _ H1 R1 S1 (.bl _)⟩
def mif {α : Type} (p : M Bool) (f g : M α) : M α := mbind p fun c => if c = true then f else g
theorem se_if {c : Expr} (hc : ST X W p c) (ha : SE X W f a) (hb : SE X W g b) : SE X W (mif p f g) (.IfExp c a b pos) := (pe_ifExp hc ha hb).imp fun σ H Q ⟨F0, ρ, R, o⟩ =>
  seqT R o fun c ρ1 H1 R1 S1 o1 => by
    cases c with
    | true => exact iteT (endE R1 S1 o1)
    | false => exact iteF (endE R1 S1 o1)
/-- one operand -/
def Sem1 (X : Cx) (r : V → Hp → VK → Prop) (sem : D → Option D) : Prop := ∀ {F : Addr → Prop} {H : Hp} {x z : D} {v : V} {Q : VK}, (∀ a, F a → ∃ o, H a = some o) → Bor X.K F H x v → sem x = some z →
  (∀ w H', Same H H' → Rep X.K F H' z w → Q w H') → r v H Q
theorem op1_of {r : V → Hp → VK → Prop} {sem : D → Option D} (h : Sem1 X r sem) {p : Opd} : ∀ σ H Q, tE X W (mop1 sem p) σ H Q → tO X W p σ H (fun v H1 => r v H1 Q) := fun σ H Q ⟨F0, ρ, R, o⟩ =>
  opd1 (k := fun x => mopt (sem x)) (good := gE X F0 ρ σ H Q) R (by cases p <;> exact o) fun x ρ2 v H2 R2 S2 b1 o2 => by
    obtain ⟨z, e, q⟩ := Out.opt o2
    exact h R2.fav_alc b1 e fun w H3 k r3 => q w H3 (R2.same k) (S2.trans (Stp.same k)) r3
theorem se_un {op : UnaryOp} {r : V → Hp → VK → Prop} {sem : D → Option D} (ho : UnR X (unaryOp op) r) (h : Sem1 X r sem) {p : Opd} (ha : SO X W p a) : SE X W (mop1 sem p) (.UnaryOp op a pos) := (pe_un ho ha).imp (op1_of h)
end
end Z

namespace Z
open PySem L2

/-! ### operators -/
def addD : D → D → Option D
  | .int i, .int j => some (.int (i + j))
  | .str x, .str y => if x.length + y.length ≤ sizeLine then some (.str (x ++ y)) else none
  | .tup xs, .tup ys => if xs.length + ys.length ≤ sizeLine then some (.tup (xs ++ ys)) else none
  | _, _ => none
def subD : D → D → Option D
  | .int i, .int j => some (.int (i - j))
  | _, _ => none
def mulOk (i j : Int) : Bool := (decide (-(2 ^ 64) < i) && decide (i < 2 ^ 64)) || (decide (-(2 ^ 64) < j) && decide (j < 2 ^ 64))
def mulD : D → D → Option D
  | .int i, .int j => if mulOk i j = true then some (.int (i * j)) else none
  | _, _ => none
def divD : D → D → Option D
  | .int i, .int j => if 0 < j ∧ j < 1073741824 then some (.int (i / j)) else none
  | _, _ => none
def modD : D → D → Option D
  | .int i, .int j => if 0 < j then some (.int (i % j)) else none
  | _, _ => none
def powOk (i j : Int) : Bool := decide (0 ≤ j) && decide (j ≤ 1000000) && decide (i.natAbs < 2 ^ 64)
def powD : D → D → Option D
  | .int i, .int j => if powOk i j = true then some (.int (i ^ j.toNat)) else none
  | _, _ => none
def shlD : D → D → Option D
  | .int i, .int j => if powOk i j = true then some (.int (i * 2 ^ j.toNat)) else none
  | _, _ => none
def shrD : D → D → Option D
  | .int i, .int j => if 0 ≤ j then some (.int (i / 2 ^ j.toNat)) else none
  | _, _ => none
def andD : D → D → Option D
  | .int i, .int j => some (.int (Builtin.bitAnd i j))
  | _, _ => none
def orD : D → D → Option D
  | .int i, .int j => some (.int (Builtin.bitOr i j))
  | _, _ => none
def xorD : D → D → Option D
  | .int i, .int j => some (.int (Builtin.bitXor i j))
  | _, _ => none
def negD : D → Option D
  | .int i => some (.int (-i))
  | _ => none

section
variable {X : Cx}
theorem sem_ints {r : R2} {sem : D → D → Option D} (h : ∀ {H : Hp} {i j : Int} {z : D} {Q : VK}, sem (.int i) (.int j) = some z → (∀ w, (∀ K F, Rep K F H z w) → Q w H) → r (.int i) (.int j) H Q)
    (hx : ∀ x y z, sem x y = some z → ∃ i j, x = .int i ∧ y = .int j) : Sem2 X r sem := fun al rx ry e q => by
  obtain ⟨i, j, rfl, rfl⟩ := hx _ _ _ e
  rw [rx.v_int, ry.v_int]
  exact h e fun w r => q w _ (Same.refl _) (r _ _)
theorem sem_sub : Sem2 X (rI0 fun i j => .int (i - j)) subD := sem_ints (fun e q => by cases e; exact ⟨_, _, rfl, rfl, q _ fun _ _ => .int _⟩) fun x y z e => by
  unfold subD at e; split at e
  · exact ⟨_, _, rfl, rfl⟩
  · cases e
theorem sem_mul : Sem2 X (rI CMul fun i j => .int (i * j)) mulD := sem_ints (fun {H i j z Q} e q => by
  have e : (if mulOk i j = true then some (D.int (i * j)) else none) = some z := e
  split at e
  · rename_i c; cases e
    refine ⟨_, _, rfl, rfl, ?_, q _ fun _ _ => .int _⟩
    simp only [mulOk, Bool.or_eq_true, Bool.and_eq_true, decide_eq_true_eq] at c
    exact c
  · cases e) fun x y z e => by
  unfold mulD at e; split at e
  · exact ⟨_, _, rfl, rfl⟩
  · cases e
theorem sem_div : Sem2 X (rI CDiv fun i j => .int (i / j)) divD := sem_ints (fun {H i j z Q} e q => by
  have e : (if 0 < j ∧ j < 1073741824 then some (D.int (i / j)) else none) = some z := e
  split at e
  · rename_i c; cases e
    exact ⟨_, _, rfl, rfl, c, q _ fun _ _ => .int _⟩
  · cases e) fun x y z e => by
  unfold divD at e; split at e
  · exact ⟨_, _, rfl, rfl⟩
  · cases e
theorem sem_mod : Sem2 X (rI (fun _ j => 0 < j) fun i j => .int (i % j)) modD := sem_ints (fun {H i j z Q} e q => by
  have e : (if 0 < j then some (D.int (i % j)) else none) = some z := e
  split at e
  · rename_i c; cases e
    exact ⟨_, _, rfl, rfl, c, q _ fun _ _ => .int _⟩
  · cases e) fun x y z e => by
  unfold modD at e; split at e
  · exact ⟨_, _, rfl, rfl⟩
  · cases e
theorem powOk_of {i j : Int} (c : powOk i j = true) : CPow i j := by
  simp only [powOk, Bool.and_eq_true, decide_eq_true_eq] at c
  exact ⟨c.1.1, c.1.2, c.2⟩
theorem sem_pow : Sem2 X (rI CPow fun i j => .int (i ^ j.toNat)) powD := sem_ints (fun {H i j z Q} e q => by
  have e : (if powOk i j = true then some (D.int (i ^ j.toNat)) else none) = some z := e
  split at e
  · rename_i c; cases e
    exact ⟨_, _, rfl, rfl, powOk_of c, q _ fun _ _ => .int _⟩
  · cases e) fun x y z e => by
  unfold powD at e; split at e
  · exact ⟨_, _, rfl, rfl⟩
  · cases e
theorem sem_shl : Sem2 X (rI CPow fun i j => .int (i * 2 ^ j.toNat)) shlD := sem_ints (fun {H i j z Q} e q => by
  have e : (if powOk i j = true then some (D.int (i * 2 ^ j.toNat)) else none) = some z := e
  split at e
  · rename_i c; cases e
    exact ⟨_, _, rfl, rfl, powOk_of c, q _ fun _ _ => .int _⟩
  · cases e) fun x y z e => by
  unfold shlD at e; split at e
  · exact ⟨_, _, rfl, rfl⟩
  · cases e
theorem sem_shr : Sem2 X (rI (fun _ j => 0 ≤ j) fun i j => .int (i / 2 ^ j.toNat)) shrD := sem_ints (fun {H i j z Q} e q => by
  have e : (if 0 ≤ j then some (D.int (i / 2 ^ j.toNat)) else none) = some z := e
  split at e
  · rename_i c; cases e
    exact ⟨_, _, rfl, rfl, c, q _ fun _ _ => .int _⟩
  · cases e) fun x y z e => by
  unfold shrD at e; split at e
  · exact ⟨_, _, rfl, rfl⟩
  · cases e
theorem sem_and : Sem2 X (rI0 fun i j => .int (Builtin.bitAnd i j)) andD := sem_ints (fun e q => by cases e; exact ⟨_, _, rfl, rfl, q _ fun _ _ => .int _⟩) fun x y z e => by
  unfold andD at e; split at e
  · exact ⟨_, _, rfl, rfl⟩
  · cases e
theorem sem_or : Sem2 X (rI0 fun i j => .int (Builtin.bitOr i j)) orD := sem_ints (fun e q => by cases e; exact ⟨_, _, rfl, rfl, q _ fun _ _ => .int _⟩) fun x y z e => by
  unfold orD at e; split at e
  · exact ⟨_, _, rfl, rfl⟩
  · cases e
theorem sem_xor : Sem2 X (rI0 fun i j => .int (Builtin.bitXor i j)) xorD := sem_ints (fun e q => by cases e; exact ⟨_, _, rfl, rfl, q _ fun _ _ => .int _⟩) fun x y z e => by
  unfold xorD at e; split at e
  · exact ⟨_, _, rfl, rfl⟩
  · cases e
theorem sem_neg : Sem1 X (rU fun i => .int (-i)) negD := fun {F H x z v Q} al rx e q => by
  unfold negD at e; split at e
  · cases e; exact ⟨_, rx.v_int, q _ _ (Same.refl _) (.int _)⟩
  · cases e

/-! a new tuple, a new list among what is kept from -/
theorem rep_newT {K : PySem.W.Frag} {F : Addr → Prop} {H : Hp} {ds : List D} {vs : List V} {p : Addr} (al : ∀ a, F a → ∃ o, H a = some o) (hp : H p = none) (r : Reps K F H ds vs) : Rep K F (upd H p (.tup vs)) (.tup ds) (.ref p) :=
  .tup (SqT.of upd_same) (.inl fun z => by obtain ⟨o, e⟩ := al p z; rw [hp] at e; cases e) (r.mono (fun _ z => .inl z) fun a o e _ => Same.new hp _ a o e)
abbrev rAddA (K : PySem.W.Frag) : R2 := fun x y H Q => rI0 (fun i j => V.int (i + j)) x y H Q ∨ (fun x y H Q => (∃ i j, x = V.str i ∧ y = V.str j ∧ i.length + j.length ≤ sizeLine ∧ Q (V.str (i ++ j)) H) ∨ rCatA K x y H Q) x y H Q
theorem op_addA : OpR X (binaryOp .Add) (rAddA X.K) := op_add.or (op_add_str.or op_catA)
theorem sem_add : Sem2 X (rAddA X.K) addD := fun {F H x y z v u Q} al rx ry e q => by
  unfold addD at e
  split at e
  · cases e; exact .inl ⟨_, _, rx.v_int, ry.v_int, q _ _ (Same.refl _) (.int _)⟩
  · split at e
    · rename_i hz; cases e
      exact .inr (.inl ⟨_, _, rx.v_str, ry.v_str, hz, q _ _ (Same.refl _) (.str _)⟩)
    · cases e
  · split at e
    · rename_i hz; cases e
      have rx' : Rep X.K F H (.tup _) v := rx
      have ry' : Rep X.K F H (.tup _) u := ry
      obtain ⟨a, vs, rfl, ha, ra⟩ := rx.v_tup
      obtain ⟨b, us, rfl, hb, rb⟩ := ry.v_tup
      refine .inr (.inr ⟨a, b, vs, us, rfl, rfl, ha, hb, by rw [← ra.length, ← rb.length]; exact hz, fun h0 => ?_, fun _ h0 => ?_, fun _ _ p hp => ?_⟩)
      · subst h0; cases ra; exact q _ _ (Same.refl _) ry'
      · subst h0; cases rb; rw [List.append_nil] at q; exact q _ _ (Same.refl _) rx'
      · exact q _ _ (Same.new hp _) (rep_newT al hp (ra.append rb))
    · cases e
  · cases e

/-! ### comparisons -/
mutual
def toPy : D → PyData
  | .non => .none
  | .bl b => .bool b
  | .int i => .int i
  | .str x => .str x
  | .tup ds => .tuple (toPys ds)
  | .lst ds => .list (toPys ds)
  | .kls ds => .list (toPys ds)
def toPys : List D → List PyData
  | [] => []
  | d :: ds => toPy d :: toPys ds
end
mutual
theorem Rep.dp {K : PySem.W.Frag} {F : Addr → Prop} {H : Hp} : ∀ {d : D} {v : V}, Rep K F H d v → Dp K H v (toPy d)
  | _, _, .non => .non
  | _, _, .bl b => .bl b
  | _, _, .int i => .int i
  | _, _, .str x => .str x
  | _, _, .tup h _ r => .tup h r.dps
  | _, _, .lst h _ r => .lst (SqL.of h) r.dps
  | _, _, .kls h _ r => .lst h r.dps
theorem Reps.dps {K : PySem.W.Frag} {F : Addr → Prop} {H : Hp} : ∀ {d : List D} {v : List V}, Reps K F H d v → DpAll K H v (toPys d)
  | _, _, .nil => .nil
  | _, _, .cons h r => .cons h.dp r.dps
end
theorem Bor.dp {K : PySem.W.Frag} {F : Addr → Prop} {H : Hp} {d : D} {v : V} (h : Bor K F H d v) : Dp K H v (toPy d) := by
  cases d with
  | lst ds => obtain ⟨a, vs, rfl, h, r⟩ := h; exact .lst (SqL.of h) r.dps
  | kls ds => exact Rep.dp h
  | non => exact Rep.dp h
  | bl b => exact Rep.dp h
  | int b => exact Rep.dp h
  | str b => exact Rep.dp h
  | tup b => exact Rep.dp h
def shp (x : D) : Bool := SeqAt.shaped (toPy x)
def eqB : D → D → Option Bool
  | .int i, .int j => some (decide (i = j))
  | .str i, .str j => some (decide (i = j))
  | .bl i, .bl j => some (decide (i = j))
  | .non, .int _ => some false
  | .int _, .non => some false
  | .non, .non => some true
  | .int _, .str _ => some false
  | .str _, .int _ => some false
  | x, y => if (shp x && shp y) = true then some (PyData.eqv (toPy x) (toPy y)) else none
def eqD (x y : D) : Option D := (eqB x y).map .bl
def neD (x y : D) : Option D := (eqB x y).map fun b => .bl (!b)
abbrev rEqA (K : PySem.W.Frag) : R2 := fun x y H Q => rEq x y H Q ∨ rEqD K x y H Q
abbrev rNeA (K : PySem.W.Frag) : R2 := fun x y H Q => rNe x y H Q ∨ rNeD K x y H Q
theorem op_eqA (hu : X.A.units + 64 < cLine) : OpR X (compareOp .Eq) (rEqA X.K) := op_eq.or (op_eqD hu)
theorem op_neA (hu : X.A.units + 64 < cLine) : OpR X (compareOp .NotEq) (rNeA X.K) := op_ne.or (op_neD hu)
theorem eq_cases {x y : D} {b : Bool} {v u : V} {K : PySem.W.Frag} {F : Addr → Prop} {H : Hp} (rx : Bor K F H x v) (ry : Bor K F H y u) (e : eqB x y = some b) :
    (scal v u = true ∧ decide (v = u) = b) ∨ (Dp K H v (toPy x) ∧ Dp K H u (toPy y) ∧ SeqAt.shaped (toPy x) = true ∧ SeqAt.shaped (toPy y) = true ∧ PyData.eqv (toPy x) (toPy y) = b) := by
  unfold eqB at e
  split at e
  · cases e; rw [rx.v_int, ry.v_int]; refine .inl ⟨rfl, ?_⟩; rw [dec_int]; rw [Bool.eq_iff_iff]; simp
  · cases e; rw [rx.v_str, ry.v_str]; refine .inl ⟨rfl, ?_⟩; rw [dec_str]; rw [Bool.eq_iff_iff]; simp
  · cases e; rw [rx.v_bl, ry.v_bl]; refine .inl ⟨rfl, ?_⟩; rw [dec_bl]; rw [Bool.eq_iff_iff]; simp
  · cases e; rw [rx.v_non, ry.v_int]; exact .inl ⟨rfl, rfl⟩
  · cases e; rw [rx.v_int, ry.v_non]; exact .inl ⟨rfl, rfl⟩
  · cases e; rw [rx.v_non, ry.v_non]; exact .inl ⟨rfl, rfl⟩
  · cases e; rw [rx.v_int, ry.v_str]; exact .inl ⟨rfl, rfl⟩
  · cases e; rw [rx.v_str, ry.v_int]; exact .inl ⟨rfl, rfl⟩
  · split at e
    · rename_i hs; cases e
      rw [Bool.and_eq_true] at hs
      exact .inr ⟨rx.dp, ry.dp, hs.1, hs.2, rfl⟩
    · cases e
theorem sem_eq : Sem2 X (rEqA X.K) eqD := fun {F H x y z v u Q} al rx ry e q => by
  unfold eqD at e
  cases e' : eqB x y with
  | none => rw [e'] at e; cases e
  | some b =>
    rw [e'] at e; cases e
    have q := q (.bl b) H (Same.refl _) (.bl b)
    rcases eq_cases rx ry e' with ⟨h1, h2⟩ | ⟨h1, h2, h3, h4, h5⟩
    · exact .inl ⟨h1, by rw [h2]; exact q⟩
    · exact .inr ⟨_, _, h1, h2, h3, h4, by rw [h5]; exact q⟩
theorem sem_ne : Sem2 X (rNeA X.K) neD := fun {F H x y z v u Q} al rx ry e q => by
  unfold neD at e
  cases e' : eqB x y with
  | none => rw [e'] at e; cases e
  | some b =>
    rw [e'] at e; cases e
    have q := q (.bl (!b)) H (Same.refl _) (.bl _)
    rcases eq_cases rx ry e' with ⟨h1, h2⟩ | ⟨h1, h2, h3, h4, h5⟩
    · exact .inl ⟨h1, by rw [h2]; exact q⟩
    · exact .inr ⟨_, _, h1, h2, h3, h4, by rw [h5]; exact q⟩
/-- order of ints (tuples of ints, texts for <) -/
def ltD : D → D → Option D
  | .int i, .int j => some (.bl (decide (i < j)))
  | _, _ => none
def leD : D → D → Option D
  | .int i, .int j => some (.bl (decide (i ≤ j)))
  | _, _ => none
def gtD : D → D → Option D
  | .int i, .int j => some (.bl (decide (j < i)))
  | _, _ => none
def geD : D → D → Option D
  | .int i, .int j => some (.bl (decide (j ≤ i)))
  | _, _ => none
theorem sem_lt : Sem2 X (rI0 fun i j => .bl (decide (i < j))) ltD := sem_ints (fun e q => by cases e; exact ⟨_, _, rfl, rfl, q _ fun _ _ => .bl _⟩) fun x y z e => by
  unfold ltD at e; split at e
  · exact ⟨_, _, rfl, rfl⟩
  · cases e
theorem sem_le : Sem2 X (rI0 fun i j => .bl (decide (i ≤ j))) leD := sem_ints (fun e q => by cases e; exact ⟨_, _, rfl, rfl, q _ fun _ _ => .bl _⟩) fun x y z e => by
  unfold leD at e; split at e
  · exact ⟨_, _, rfl, rfl⟩
  · cases e
theorem sem_gt : Sem2 X (rI0 fun i j => .bl (decide (j < i))) gtD := sem_ints (fun e q => by cases e; exact ⟨_, _, rfl, rfl, q _ fun _ _ => .bl _⟩) fun x y z e => by
  unfold gtD at e; split at e
  · exact ⟨_, _, rfl, rfl⟩
  · cases e
theorem sem_ge : Sem2 X (rI0 fun i j => .bl (decide (j ≤ i))) geD := sem_ints (fun e q => by cases e; exact ⟨_, _, rfl, rfl, q _ fun _ _ => .bl _⟩) fun x y z e => by
  unfold geD at e; split at e
  · exact ⟨_, _, rfl, rfl⟩
  · cases e
/-- is None -/
def isND : D → D → Option D
  | .non, .non => some (.bl true)
  | _, .non => some (.bl false)
  | _, _ => none
def notND : D → D → Option D
  | .non, .non => some (.bl false)
  | _, .non => some (.bl true)
  | _, _ => none
theorem sem_isN : Sem2 X (fun x y H Q => y = .non ∧ Q (.bl (decide (x = .non))) H) isND := fun {F H x y z v u Q} al rx ry e q => by
  cases y <;> first | (cases x <;> cases e; done) | skip
  have n := rx.nn
  refine ⟨ry.v_non, ?_⟩
  rw [n]
  cases x <;> cases e <;> exact q _ _ (Same.refl _) (.bl _)
theorem sem_notN : Sem2 X (fun x y H Q => y = .non ∧ Q (.bl (!decide (x = .non))) H) notND := fun {F H x y z v u Q} al rx ry e q => by
  cases y <;> first | (cases x <;> cases e; done) | skip
  have n := rx.nn
  refine ⟨ry.v_non, ?_⟩
  rw [n]
  cases x <;> cases e <;> exact q _ _ (Same.refl _) (.bl _)
/-- in: flat things in a list or tuple; any data in a list -/
def flatD : D → Bool
  | .tup _ => false
  | .lst _ => false
  | .kls _ => false
  | _ => true
def vOf : D → V
  | .non => .non
  | .bl b => .bl b
  | .int i => .int i
  | .str x => .str x
  | _ => .non
def inB (x : D) (ys : List D) : Bool := inV (vOf x) (ys.map vOf)
def inFlat (x : D) : D → Option Bool
  | .tup ys => if (flatD x && ys.all flatD) = true then some (inB x ys) else none
  | .lst ys => if (flatD x && ys.all flatD) = true then some (inB x ys) else if (shp x && shp (.lst ys)) = true then some ((toPys ys).any fun z => PyData.eqv z (toPy x)) else none
  | _ => none
def inD (x y : D) : Option D := (inFlat x y).map .bl
def notInD (x y : D) : Option D := (inFlat x y).map fun b => .bl (!b)
theorem flat_of {K : PySem.W.Frag} {F : Addr → Prop} {H : Hp} {x : D} {v : V} (r : Bor K F H x v) (h : flatD x = true) : v = vOf x ∧ flatV v = true := by
  cases x with
  | non => rw [r.v_non]; exact ⟨rfl, rfl⟩
  | bl b => rw [r.v_bl]; exact ⟨rfl, rfl⟩
  | int b => rw [r.v_int]; exact ⟨rfl, rfl⟩
  | str b => rw [r.v_str]; exact ⟨rfl, rfl⟩
  | tup b => cases h
  | lst b => cases h
  | kls b => cases h
theorem flats_of {K : PySem.W.Frag} {F : Addr → Prop} {H : Hp} : ∀ {xs : List D} {vs : List V}, Reps K F H xs vs → xs.all flatD = true → vs = xs.map vOf ∧ vs.all flatV = true
  | _, _, .nil, _ => ⟨rfl, rfl⟩
  | _, _, .cons h r, e => by
    rw [List.all_cons, Bool.and_eq_true] at e
    obtain ⟨e1, f1⟩ := flat_of h.bor e.1
    obtain ⟨e2, f2⟩ := flats_of r e.2
    exact ⟨by rw [List.map_cons, ← e1, ← e2], by rw [List.all_cons, f1, f2]; rfl⟩
theorem in_cases {x y : D} {b : Bool} {v u : V} {K : PySem.W.Frag} {F : Addr → Prop} {H : Hp} (rx : Bor K F H x v) (ry : Bor K F H y u) (e : inFlat x y = some b) :
    (∃ p xs, u = .ref p ∧ (SqL K H p xs ∨ SqT K H p xs) ∧ flatV v = true ∧ xs.all flatV = true ∧ inV v xs = b) ∨
    (∃ d ds, Dp K H v d ∧ Dp K H u (.list ds) ∧ SeqAt.shaped d = true ∧ SeqAt.shaped (.list ds) = true ∧ (ds.any fun z => PyData.eqv z d) = b) := by
  unfold inFlat at e
  split at e
  · split at e
    · rename_i hs; cases e
      rw [Bool.and_eq_true] at hs
      obtain ⟨a, vs, rfl, ha, ra⟩ := ry.v_tup
      obtain ⟨e1, f1⟩ := flat_of rx hs.1
      obtain ⟨e2, f2⟩ := flats_of ra hs.2
      exact .inl ⟨a, vs, rfl, .inr ha, f1, f2, by rw [e1, e2]; rfl⟩
    · cases e
  · split at e
    · rename_i hs; cases e
      rw [Bool.and_eq_true] at hs
      obtain ⟨a, vs, rfl, ha, ra⟩ := ry.v_lst
      obtain ⟨e1, f1⟩ := flat_of rx hs.1
      obtain ⟨e2, f2⟩ := flats_of ra hs.2
      exact .inl ⟨a, vs, rfl, .inl ha, f1, f2, by rw [e1, e2]; rfl⟩
    · split at e
      · rename_i hs; cases e
        rw [Bool.and_eq_true] at hs
        exact .inr ⟨_, _, rx.dp, ry.dp, hs.1, hs.2, rfl⟩
      · cases e
  · cases e
abbrev rInA (K : PySem.W.Frag) : R2 := fun x y H Q => rIn K false x y H Q ∨ rInD K x y H Q
abbrev rNotInA (K : PySem.W.Frag) : R2 := fun x y H Q => rIn K true x y H Q ∨ rNotInD K x y H Q
theorem op_inA (hu : X.A.units + 65 < cLine) : OpR X (compareOp .In) (rInA X.K) := op_in_seq.or (op_inD hu)
theorem op_notInA (hu : X.A.units + 65 < cLine) : OpR X (compareOp .NotIn) (rNotInA X.K) := op_notIn_seq.or (op_notInD hu)
theorem sem_in : Sem2 X (rInA X.K) inD := fun {F H x y z v u Q} al rx ry e q => by
  unfold inD at e
  cases e' : inFlat x y with
  | none => rw [e'] at e; cases e
  | some b =>
    rw [e'] at e; cases e
    have q := q (.bl b) H (Same.refl _) (.bl b)
    rcases in_cases rx ry e' with ⟨p, xs, h1, h2, h3, h4, h5⟩ | ⟨d, ds, h1, h2, h3, h4, h5⟩
    · exact .inl ⟨p, xs, h1, h2, h3, h4, by rw [h5]; exact q⟩
    · exact .inr ⟨d, ds, h1, h2, h3, h4, by rw [h5]; exact q⟩
theorem sem_notIn : Sem2 X (rNotInA X.K) notInD := fun {F H x y z v u Q} al rx ry e q => by
  unfold notInD at e
  cases e' : inFlat x y with
  | none => rw [e'] at e; cases e
  | some b =>
    rw [e'] at e; cases e
    have q := q (.bl (!b)) H (Same.refl _) (.bl _)
    rcases in_cases rx ry e' with ⟨p, xs, h1, h2, h3, h4, h5⟩ | ⟨d, ds, h1, h2, h3, h4, h5⟩
    · exact .inl ⟨p, xs, h1, h2, h3, h4, by rw [h5]; exact q⟩
    · exact .inr ⟨d, ds, h1, h2, h3, h4, by rw [h5]; exact q⟩

/-! ### items, slices -/
def idxD : D → D → Option D
  | .tup xs, .int i => atI xs i
  | .lst xs, .int i => atI xs i
  | .kls xs, .int i => atI xs i
  | .str z, .int i => if z.length ≤ sizeLine then (atI z.cps.toList i).map fun c => .str ⟨#[c]⟩ else none
  | _, _ => none
theorem reps_at {K : PySem.W.Frag} {F : Addr → Prop} {H : Hp} {xs : List D} {vs : List V} {i : Int} {x : D} (r : Reps K F H xs vs) (h : atI xs i = some x) : ∃ v, atI vs i = some v ∧ Rep K F H x v := by
  unfold atI at h ⊢
  rw [← r.length]
  cases e : ixN xs.length i with
  | none => rw [e] at h; cases h
  | some j =>
    rw [e] at h
    obtain ⟨v, h1, h2⟩ := r.get (show xs[j]? = some x from h)
    exact ⟨v, h1, h2⟩
theorem sem_idx : Sem2 X (rIx X.K) idxD := fun {F H x y z v u Q} al rx ry e q => by
  unfold idxD at e
  split at e
  · obtain ⟨a, vs, rfl, ha, ra⟩ := rx.v_tup
    obtain ⟨w, h1, h2⟩ := reps_at ra e
    exact .inr (.inl ⟨a, vs, _, w, rfl, ry.v_int, ha, h1, q _ _ (Same.refl _) h2⟩)
  · obtain ⟨a, vs, rfl, ha, ra⟩ := rx.v_lst
    obtain ⟨w, h1, h2⟩ := reps_at ra e
    exact .inl ⟨a, vs, _, w, rfl, ry.v_int, ha, h1, q _ _ (Same.refl _) h2⟩
  · obtain ⟨a, vs, rfl, ha, ra⟩ := rx.v_kls
    obtain ⟨w, h1, h2⟩ := reps_at ra e
    exact .inl ⟨a, vs, _, w, rfl, ry.v_int, ha, h1, q _ _ (Same.refl _) h2⟩
  · split at e
    · rename_i z' i hz
      cases e' : atI z'.cps.toList i with
      | none => rw [e'] at e; cases e
      | some c =>
        rw [e'] at e; cases e
        exact .inr (.inr ⟨_, _, c, rx.v_str, ry.v_int, hz, e', q _ _ (Same.refl _) (.str _)⟩)
    · cases e
  · cases e
theorem se_ix {W : WX} {p q : Opd} {a b : Expr} {pos : Pos} (ha : SO X W p a) (hb : SO X W q b) (hs : PlainIx b) : SE X W (mop2 idxD p q) (.Subscript a b pos) := (pe_ix ix_seq ha hb hs).imp (op2_of sem_idx)
end
end Z

namespace Z
open PySem L2

section
variable {K : PySem.W.Frag} {F0 : Addr → Prop} {ρ : En} {σ : St} {H H' : Hp} {p : Addr}
/-- a new object is kept from, too -/
theorem Rl.more (R : Rl K F0 ρ σ H) (k : Same H H') (hp : H p = none) (hp' : ∃ o, H' p = some o) : Rl K (plus F0 p) ρ σ H' := by
  have m : ∀ a, Fav (plus F0 p) ρ σ a → Fav F0 ρ σ a ∨ H a = none := fun a z => by
    rcases z with (z | z) | z
    · exact .inl (.inl z)
    · exact .inr (by rw [z]; exact hp)
    · exact .inl (.inr z)
  have m2 : ∀ a o, H a = some o → ¬ Fav F0 ρ σ a → H' a = some o := fun a o e _ => k a o e
  refine ⟨R.len, fun i x e => ?_, fun i b ds e => ?_, R.inj, fun a h => ?_⟩
  · obtain ⟨v, e1, r⟩ := R.dat i x e
    exact ⟨v, e1, r.mono m m2⟩
  · obtain ⟨a, vs, e1, e2, r, n⟩ := R.own i b ds e
    refine ⟨a, vs, e1, k _ _ e2, r.mono m m2, fun z => z.elim n fun q => ?_⟩
    rw [q, hp] at e2; cases e2
  · rcases h with h | h
    · obtain ⟨o, e⟩ := R.alc a h
      exact ⟨o, k _ _ e⟩
    · rw [h]; exact hp'
theorem Reps.more {ds : List D} {vs : List V} (k : Same H H') (hp : H p = none) (r : Reps K (Fav F0 ρ σ) H ds vs) : Reps K (Fav (plus F0 p) ρ σ) H' ds vs :=
  r.mono (fun a z => by
    rcases z with (z | z) | z
    · exact .inl (.inl z)
    · exact .inr (by rw [z]; exact hp)
    · exact .inl (.inr z)) fun a o e _ => k a o e
theorem Rep.more {d : D} {v : V} (k : Same H H') (hp : H p = none) (r : Rep K (Fav F0 ρ σ) H d v) : Rep K (Fav (plus F0 p) ρ σ) H' d v :=
  r.mono (fun a z => by
    rcases z with (z | z) | z
    · exact .inl (.inl z)
    · exact .inr (by rw [z]; exact hp)
    · exact .inl (.inr z)) fun a o e _ => k a o e
end

section
variable {X : Cx} {W : WX} {pos : Pos}
/-! ### lists of arguments, displays -/
def mcons (f : M D) (g : M (List D)) : M (List D) := mbind f fun x => mbind g fun xs => mpure (x :: xs)
theorem sa_nil : SA X W (mpure []) [] := pa_nil.imp fun σ H Q ⟨F0, ρ, R, o⟩ => o [] H R (Stp.refl _ _ _) .nil
theorem sa_cons {f : M D} {g : M (List D)} {e : Expr} {es : List Expr} (ha : SE X W f e) (hr : SA X W g es) (hs : starEach (e :: es) X.env = (false, eval e X.env) :: starEach es X.env := by rfl) : SA X W (mcons f g) (e :: es) :=
  (pa_cons ha hr hs).imp fun σ H Q ⟨F0, ρ, R, o⟩ => seqE R o fun x ρ1 v H1 R1 S1 r1 o1 => seqA R1 o1 fun xs ρ2 vs H2 R2 S2 r2 o2 => o2 _ H2 R2 (S1.trans S2) (.cons (S2.rep r1) r2)
def mtup (f : M (List D)) : M D := mbind f fun xs => if xs.length ≤ 1000 then mpure (.tup xs) else mbad
def mlst (f : M (List D)) : M (List D) := mbind f fun xs => if xs.length ≤ 1000 then mpure xs else mbad
theorem k1000 {n : Nat} (h : n ≤ 1000) : n ≤ sizeLine := Nat.le_of_lt (small1000 h)
theorem se_tup {f : M (List D)} {es : List Expr} {x1} (h : SA X W f es) : SE X W (mtup f) (.Tuple es x1 pos) := (pe_tup h).imp fun σ H Q ⟨F0, ρ, R, o⟩ =>
  seqA R o fun xs ρ1 vs H1 R1 S1 r1 o1 => by
    split at o1
    · rename_i hz
      refine ⟨by rw [← r1.length]; exact k1000 hz, fun p hp => ?_⟩
      exact o1 _ _ (R1.same (Same.new hp _)) (S1.trans (Stp.same (Same.new hp _))) (rep_newT (fun a => R1.fav_alc a) hp r1)
    · exact o1.elim
theorem sf_lst {f : M (List D)} {es : List Expr} (h : SA X W f es) : SF X W (mlst f) (.List es pos) := (pe_lst h).imp fun σ H Q ⟨F0, ρ, R, o⟩ =>
  seqA R o fun xs ρ1 vs H1 R1 S1 r1 o1 => by
    split at o1
    · rename_i hz
      refine ⟨by rw [← r1.length]; exact k1000 hz, fun p hp => ?_⟩
      have k := Same.new hp (.lst vs)
      exact o1 p vs _ (R1.more k hp ⟨_, upd_same⟩) (S1.trans (Stp.same k)) (S1.trk p hp) upd_same (r1.more k hp)
    · exact o1.elim

/-! ### built-ins of one or two operands -/
section
variable {x : Str} {id T : String} {r : List V → Hp → VK → Prop} {p q : Opd} {e e2 : Expr} {pp : Pos}
theorem se_callB1 {sem : D → Option D} (hc : CallR X (.builtin id) r) (h : Sem1 X (fun v H Q => r [v] H Q) sem) (hg : Gl X x) (hm : X.mg x = none) (hv : bootBuiltins x = some (.builtin id)) (ha : SO X W p e) (hn : x ≠ "__name__" := by decide) (hdb : (x == ("__debug__" : Str)) = false := by decide)
    (he : starEach (e :: []) X.env = (false, eval e X.env) :: starEach [] X.env := by rfl) (hpl : (backTo pos (starEach [] X.env)).any (·.1) = false := by rfl) : SE X W (mop1 sem p) (.Call (.Name x pp) [e] [] pos) :=
  (pe_callB hc hg hm hv (pa_cons ha pa_nil he) hn hdb he hpl).imp (op1_of h)
theorem se_callT1 {sem : D → Option D} (hc : CallR X (.type T) r) (h : Sem1 X (fun v H Q => r [v] H Q) sem) (hg : Gl X x) (hm : X.mg x = none) (hv : bootBuiltins x = some (.type T)) (ha : SO X W p e) (hn : x ≠ "__name__" := by decide) (hdb : (x == ("__debug__" : Str)) = false := by decide)
    (he : starEach (e :: []) X.env = (false, eval e X.env) :: starEach [] X.env := by rfl) (hpl : (backTo pos (starEach [] X.env)).any (·.1) = false := by rfl) : SE X W (mop1 sem p) (.Call (.Name x pp) [e] [] pos) :=
  (pe_callTy hc hg hm hv (pa_cons ha pa_nil he) hn hdb he hpl).imp (op1_of h)
theorem se_callB2 {sem : D → D → Option D} (hc : CallR X (.builtin id) r) (h : Sem2 X (fun v u H Q => r [v, u] H Q) sem) (hg : Gl X x) (hm : X.mg x = none) (hv : bootBuiltins x = some (.builtin id)) (ha : SO X W p e) (hb : SO X W q e2) (hn : x ≠ "__name__" := by decide) (hdb : (x == ("__debug__" : Str)) = false := by decide)
    (he : starEach (e :: [e2]) X.env = (false, eval e X.env) :: starEach [e2] X.env := by rfl) (he2 : starEach (e2 :: []) X.env = (false, eval e2 X.env) :: starEach [] X.env := by rfl) (hpl : (backTo pos (starEach [e2] X.env)).any (·.1) = false := by rfl) : SE X W (mop2 sem p q) (.Call (.Name x pp) [e, e2] [] pos) :=
  (pe_callB hc hg hm hv (pa_cons ha (pa_cons hb pa_nil he2) he) hn hdb he hpl).imp (op2_of h)
/-- .. whose answer is a new list -/
def Sem1F (X : Cx) (r : V → Hp → VK → Prop) (sem : D → Option (List D)) : Prop := ∀ {F : Addr → Prop} {H : Hp} {x : D} {ds : List D} {v : V} {Q : VK}, (∀ a, F a → ∃ o, H a = some o) → Bor X.K F H x v → sem x = some ds →
  (∀ p vs, H p = none → Reps X.K F H ds vs → Q (.ref p) (upd H p (.lst vs))) → r v H Q
def mop1F (sem : D → Option (List D)) : Opd → M (List D)
  | .val f => mbind f fun x => mopt (sem x)
  | .slot i => mbind (mget i) fun x => mopt (sem x)
theorem op1F_of {r : V → Hp → VK → Prop} {sem : D → Option (List D)} (h : Sem1F X r sem) {p : Opd} : ∀ σ H Q, tF X W (mop1F sem p) σ H Q → tO X W p σ H (fun v H1 => r v H1 Q) := fun σ H Q ⟨F0, ρ, R, o⟩ =>
  opd1 (k := fun x => mopt (sem x)) (good := gF X F0 ρ σ H Q) R (by cases p <;> exact o) fun x ρ2 v H2 R2 S2 b1 o2 => by
    obtain ⟨z, e, q⟩ := Out.opt o2
    refine h R2.fav_alc b1 e fun p vs hp r3 => ?_
    have k := Same.new hp (.lst vs)
    exact q p vs _ (R2.more k hp ⟨_, upd_same⟩) (S2.trans (Stp.same k)) (S2.trk p hp) upd_same (r3.more k hp)
theorem sf_callB1 {sem : D → Option (List D)} (hc : CallR X (.builtin id) r) (h : Sem1F X (fun v H Q => r [v] H Q) sem) (hg : Gl X x) (hm : X.mg x = none) (hv : bootBuiltins x = some (.builtin id)) (ha : SO X W p e) (hn : x ≠ "__name__" := by decide) (hdb : (x == ("__debug__" : Str)) = false := by decide)
    (he : starEach (e :: []) X.env = (false, eval e X.env) :: starEach [] X.env := by rfl) (hpl : (backTo pos (starEach [] X.env)).any (·.1) = false := by rfl) : SF X W (mop1F sem p) (.Call (.Name x pp) [e] [] pos) :=
  (pe_callB hc hg hm hv (pa_cons ha pa_nil he) hn hdb he hpl).imp (op1F_of h)
theorem sf_callT1 {sem : D → Option (List D)} (hc : CallR X (.type T) r) (h : Sem1F X (fun v H Q => r [v] H Q) sem) (hg : Gl X x) (hm : X.mg x = none) (hv : bootBuiltins x = some (.type T)) (ha : SO X W p e) (hn : x ≠ "__name__" := by decide) (hdb : (x == ("__debug__" : Str)) = false := by decide)
    (he : starEach (e :: []) X.env = (false, eval e X.env) :: starEach [] X.env := by rfl) (hpl : (backTo pos (starEach [] X.env)).any (·.1) = false := by rfl) : SF X W (mop1F sem p) (.Call (.Name x pp) [e] [] pos) :=
  (pe_callTy hc hg hm hv (pa_cons ha pa_nil he) hn hdb he hpl).imp (op1F_of h)
end

/-! their answers -/
def lenD : D → Option D
  | .str z => if z.length ≤ sizeLine then some (.int z.length) else none
  | .tup xs => some (.int xs.length)
  | .lst xs => some (.int xs.length)
  | .kls xs => some (.int xs.length)
  | _ => none
theorem sem_len : Sem1 X (fun v H Q => ∃ x n, [v] = [x] ∧ LenV X.K x H n ∧ Q (.int n) H) lenD := fun {F H x z v Q} al r e q => by
  unfold lenD at e
  split at e
  · split at e
    · rename_i hz; cases e
      rw [r.v_str]
      exact ⟨_, _, rfl, ⟨hz, rfl⟩, q _ _ (Same.refl _) (.int _)⟩
    · cases e
  · cases e
    obtain ⟨a, vs, rfl, h, r⟩ := r.v_tup
    exact ⟨_, _, rfl, .inr ⟨vs, h, rfl⟩, by rw [← r.length]; exact q _ _ (Same.refl _) (.int _)⟩
  · cases e
    obtain ⟨a, vs, rfl, h, r⟩ := r.v_lst
    exact ⟨_, _, rfl, .inl ⟨vs, h, rfl⟩, by rw [← r.length]; exact q _ _ (Same.refl _) (.int _)⟩
  · cases e
    obtain ⟨a, vs, rfl, h, r⟩ := r.v_kls
    exact ⟨_, _, rfl, .inl ⟨vs, h, rfl⟩, by rw [← r.length]; exact q _ _ (Same.refl _) (.int _)⟩
  · cases e
def intD : D → Option D
  | .int i => some (.int i)
  | .bl b => some (.int (if b then 1 else 0))
  | _ => none
theorem sem_int : Sem1 X (fun v H Q => (∃ i, [v] = [V.int i] ∧ Q (.int i) H) ∨ ∃ k, [v] = [V.bl k] ∧ Q (.int (if k then 1 else 0)) H) intD := fun {F H x z v Q} al r e q => by
  unfold intD at e
  split at e
  · cases e; rw [r.v_int]; exact .inl ⟨_, rfl, q _ _ (Same.refl _) (.int _)⟩
  · cases e; rw [r.v_bl]; exact .inr ⟨_, rfl, q _ _ (Same.refl _) (.int _)⟩
  · cases e
def strD : D → Option D
  | .int i => if i.natAbs.log2 < 1920 then some (.str (toString i)) else none
  | _ => none
theorem sem_str : Sem1 X (fun v H Q => ∃ i : Int, [v] = [V.int i] ∧ i.natAbs.log2 < 1920 ∧ Q (.str (toString i)) H) strD := fun {F H x z v Q} al r e q => by
  unfold strD at e
  split at e
  · split at e
    · rename_i hz; cases e; rw [r.v_int]; exact ⟨_, rfl, hz, q _ _ (Same.refl _) (.str _)⟩
    · cases e
  · cases e
def absD : D → Option D
  | .int i => some (.int (if i < 0 then -i else i))
  | _ => none
theorem sem_abs : Sem1 X (fun v H Q => ∃ i : Int, [v] = [V.int i] ∧ Q (.int (if i < 0 then -i else i)) H) absD := fun {F H x z v Q} al r e q => by
  unfold absD at e
  split at e
  · cases e; rw [r.v_int]; exact ⟨_, rfl, q _ _ (Same.refl _) (.int _)⟩
  · cases e
def max2D : D → D → Option D
  | .int i, .int j => some (.int (if j > i then j else i))
  | _, _ => none
def min2D : D → D → Option D
  | .int i, .int j => some (.int (if j < i then j else i))
  | _, _ => none
theorem sem_max2 : Sem2 X (fun v u H Q => ∃ i j : Int, [v, u] = [V.int i, V.int j] ∧ Q (.int (if j > i then j else i)) H) max2D := fun {F H x y z v u Q} al rx ry e q => by
  unfold max2D at e
  split at e
  · cases e; rw [rx.v_int, ry.v_int]; exact ⟨_, _, rfl, q _ _ (Same.refl _) (.int _)⟩
  · cases e
theorem sem_min2 : Sem2 X (fun v u H Q => ∃ i j : Int, [v, u] = [V.int i, V.int j] ∧ Q (.int (if j < i then j else i)) H) min2D := fun {F H x y z v u Q} al rx ry e q => by
  unfold min2D at e
  split at e
  · cases e; rw [rx.v_int, ry.v_int]; exact ⟨_, _, rfl, q _ _ (Same.refl _) (.int _)⟩
  · cases e
def tupleD : D → Option D
  | .lst xs => some (.tup xs)
  | .kls xs => some (.tup xs)
  | .tup xs => some (.tup xs)
  | _ => none
theorem sem_tuple : Sem1 X (fun v H Q => ∃ p ys, [v] = [V.ref p] ∧ ((SqL X.K H p ys ∧ ∀ l, H l = none → Q (.ref l) (upd H l (.tup ys))) ∨ (SqT X.K H p ys ∧ Q (.ref p) H))) tupleD := fun {F H x z v Q} al r e q => by
  unfold tupleD at e
  split at e
  · cases e
    obtain ⟨a, vs, rfl, h, r⟩ := r.v_lst
    exact ⟨a, vs, rfl, .inl ⟨h, fun l hl => q _ _ (Same.new hl _) (rep_newT al hl r)⟩⟩
  · cases e
    obtain ⟨a, vs, rfl, h, r⟩ := r.v_kls
    exact ⟨a, vs, rfl, .inl ⟨h, fun l hl => q _ _ (Same.new hl _) (rep_newT al hl r)⟩⟩
  · cases e
    have r' : Rep X.K F H (.tup _) v := r
    obtain ⟨a, vs, rfl, h, _⟩ := r.v_tup
    exact ⟨a, vs, rfl, .inr ⟨h, q _ _ (Same.refl _) r'⟩⟩
  · cases e
def listD : D → Option (List D)
  | .lst xs => some xs
  | .kls xs => some xs
  | .tup xs => some xs
  | _ => none
theorem sem_list : Sem1F X (fun v H Q => ∃ p ys, [v] = [V.ref p] ∧ (SqL X.K H p ys ∨ SqT X.K H p ys) ∧ ∀ l, H l = none → Q (.ref l) (upd H l (.lst ys))) listD := fun {F H x ds v Q} al r e q => by
  unfold listD at e
  split at e
  · cases e
    obtain ⟨a, vs, rfl, h, r⟩ := r.v_lst
    exact ⟨a, vs, rfl, .inl h, fun l hl => q _ _ hl r⟩
  · cases e
    obtain ⟨a, vs, rfl, h, r⟩ := r.v_kls
    exact ⟨a, vs, rfl, .inl h, fun l hl => q _ _ hl r⟩
  · cases e
    obtain ⟨a, vs, rfl, h, r⟩ := r.v_tup
    exact ⟨a, vs, rfl, .inr h, fun l hl => q _ _ hl r⟩
  · cases e
/-- whole numbers, truths among data -/
def asInts : List D → Option (List Int)
  | [] => some []
  | .int i :: r => (asInts r).map (i :: ·)
  | _ => none
def asBls : List D → Option (List Bool)
  | [] => some []
  | .bl i :: r => (asBls r).map (i :: ·)
  | _ => none
theorem asInts_of : ∀ {ds : List D} {ns : List Int}, asInts ds = some ns → ds = ns.map D.int
  | [], _, h => by cases h; rfl
  | .int i :: r, ns, h => by
    have h : (asInts r).map (i :: ·) = some ns := h
    cases e : asInts r with
    | none => rw [e] at h; cases h
    | some ms => rw [e] at h; cases h; rw [asInts_of e]; rfl
  | .non :: _, _, h => by cases h
  | .bl _ :: _, _, h => by cases h
  | .str _ :: _, _, h => by cases h
  | .tup _ :: _, _, h => by cases h
  | .lst _ :: _, _, h => by cases h
  | .kls _ :: _, _, h => by cases h
theorem asInts_map : ∀ ns : List Int, asInts (ns.map D.int) = some ns
  | [] => rfl
  | i :: r => by show (asInts (r.map D.int)).map (i :: ·) = _; rw [asInts_map r]; rfl
theorem asBls_of : ∀ {ds : List D} {ns : List Bool}, asBls ds = some ns → ds = ns.map D.bl
  | [], _, h => by cases h; rfl
  | .bl i :: r, ns, h => by
    have h : (asBls r).map (i :: ·) = some ns := h
    cases e : asBls r with
    | none => rw [e] at h; cases h
    | some ms => rw [e] at h; cases h; rw [asBls_of e]; rfl
  | .non :: _, _, h => by cases h
  | .int _ :: _, _, h => by cases h
  | .str _ :: _, _, h => by cases h
  | .tup _ :: _, _, h => by cases h
  | .lst _ :: _, _, h => by cases h
  | .kls _ :: _, _, h => by cases h
theorem asBls_map : ∀ ns : List Bool, asBls (ns.map D.bl) = some ns
  | [] => rfl
  | i :: r => by show (asBls (r.map D.bl)).map (i :: ·) = _; rw [asBls_map r]; rfl
theorem reps_ints {K : PySem.W.Frag} {F : Addr → Prop} {H : Hp} : ∀ {ns : List Int} {vs : List V}, Reps K F H (ns.map D.int) vs → vs = ns.map V.int
  | [], _, .nil => rfl
  | _ :: _, _, .cons h r => by rw [h.v_int, reps_ints r]; rfl
theorem reps_bls {K : PySem.W.Frag} {F : Addr → Prop} {H : Hp} : ∀ {ns : List Bool} {vs : List V}, Reps K F H (ns.map D.bl) vs → vs = ns.map V.bl
  | [], _, .nil => rfl
  | _ :: _, _, .cons h r => by rw [h.v_bl, reps_bls r]; rfl
def sumD : D → Option D
  | .lst xs => (asInts xs).map fun ns => .int ns.sum
  | _ => none
theorem sem_sum : Sem1 X (fun v H Q => rSum X.K [v] H Q) sumD := fun {F H x z v Q} al r e q => by
  unfold sumD at e
  split at e
  · rename_i xs
    cases e1 : asInts xs with
    | none => rw [e1] at e; cases e
    | some ns =>
      rw [e1] at e; cases e
      obtain ⟨a, vs, rfl, h, r⟩ := r.v_lst
      rw [asInts_of e1] at r
      rw [reps_ints r] at h
      exact ⟨a, ns, rfl, h, q _ _ (Same.refl _) (.int _)⟩
  · cases e
def maxI : Int → List Int → Int
  | m, [] => m
  | m, x :: r => maxI (if x > m then x else m) r
def minI : Int → List Int → Int
  | m, [] => m
  | m, x :: r => minI (if x < m then x else m) r
theorem maxI_spec : ∀ (r : List Int) (m : Int), (maxI m r = m ∨ maxI m r ∈ r) ∧ m ≤ maxI m r ∧ ∀ y ∈ r, y ≤ maxI m r
  | [], m => ⟨.inl rfl, Int.le_refl _, fun _ h => by cases h⟩
  | x :: r, m => by
    obtain ⟨h1, h2, h3⟩ := maxI_spec r (if x > m then x else m)
    have e : maxI m (x :: r) = maxI (if x > m then x else m) r := rfl
    rw [e]
    refine ⟨?_, ?_, fun y hy => ?_⟩
    · rcases h1 with h1 | h1
      · rw [h1]; split
        · exact .inr (by simp)
        · exact .inl rfl
      · exact .inr (List.mem_cons_of_mem _ h1)
    · revert h2; split <;> omega
    · rcases List.mem_cons.mp hy with rfl | hy
      · revert h2; split <;> omega
      · exact h3 y hy
theorem minI_spec : ∀ (r : List Int) (m : Int), (minI m r = m ∨ minI m r ∈ r) ∧ minI m r ≤ m ∧ ∀ y ∈ r, minI m r ≤ y
  | [], m => ⟨.inl rfl, Int.le_refl _, fun _ h => by cases h⟩
  | x :: r, m => by
    obtain ⟨h1, h2, h3⟩ := minI_spec r (if x < m then x else m)
    have e : minI m (x :: r) = minI (if x < m then x else m) r := rfl
    rw [e]
    refine ⟨?_, ?_, fun y hy => ?_⟩
    · rcases h1 with h1 | h1
      · rw [h1]; split
        · exact .inr (by simp)
        · exact .inl rfl
      · exact .inr (List.mem_cons_of_mem _ h1)
    · revert h2; split <;> omega
    · rcases List.mem_cons.mp hy with rfl | hy
      · revert h2; split <;> omega
      · exact h3 y hy
def maxD : D → Option D
  | .lst xs => match asInts xs with
    | some (m :: r) => some (.int (maxI m r))
    | _ => none
  | _ => none
def minD : D → Option D
  | .lst xs => match asInts xs with
    | some (m :: r) => some (.int (minI m r))
    | _ => none
  | _ => none
theorem sem_max : Sem1 X (fun v H Q => rMax X.K [v] H Q) maxD := fun {F H x z v Q} al r e q => by
  unfold maxD at e
  split at e
  · split at e
    · rename_i xs _ m r' e1
      cases e
      obtain ⟨a, vs, rfl, h, r⟩ := r.v_lst
      rw [asInts_of e1] at r
      rw [reps_ints r] at h
      refine ⟨a, _, rfl, h, Nat.succ_pos _, fun k hk hle => ?_⟩
      obtain ⟨h1, h2, h3⟩ := maxI_spec r' m
      have e2 : k = maxI m r' := by
        have a1 : k ≤ maxI m r' := by
          rcases List.mem_cons.mp hk with rfl | hk
          · exact h2
          · exact h3 k hk
        have a2 : maxI m r' ≤ k := by
          rcases h1 with h1 | h1
          · rw [h1]; exact hle m (by simp)
          · exact hle _ (List.mem_cons_of_mem _ h1)
        omega
      rw [e2]
      exact q _ _ (Same.refl _) (.int _)
    · cases e
  · cases e
theorem sem_min : Sem1 X (fun v H Q => rMin X.K [v] H Q) minD := fun {F H x z v Q} al r e q => by
  unfold minD at e
  split at e
  · split at e
    · rename_i xs _ m r' e1
      cases e
      obtain ⟨a, vs, rfl, h, r⟩ := r.v_lst
      rw [asInts_of e1] at r
      rw [reps_ints r] at h
      refine ⟨a, _, rfl, h, Nat.succ_pos _, fun k hk hle => ?_⟩
      obtain ⟨h1, h2, h3⟩ := minI_spec r' m
      have e2 : k = minI m r' := by
        have a1 : minI m r' ≤ k := by
          rcases List.mem_cons.mp hk with rfl | hk
          · exact h2
          · exact h3 k hk
        have a2 : k ≤ minI m r' := by
          rcases h1 with h1 | h1
          · rw [h1]; exact hle m (by simp)
          · exact hle _ (List.mem_cons_of_mem _ h1)
        omega
      rw [e2]
      exact q _ _ (Same.refl _) (.int _)
    · cases e
  · cases e
def allD : D → Option D
  | .lst xs => (asBls xs).map fun bs => .bl (bs.all id)
  | _ => none
def anyD : D → Option D
  | .lst xs => (asBls xs).map fun bs => .bl (bs.any id)
  | _ => none
theorem sem_all : Sem1 X (fun v H Q => rAll X.K [v] H Q) allD := fun {F H x z v Q} al r e q => by
  unfold allD at e
  split at e
  · rename_i xs
    cases e1 : asBls xs with
    | none => rw [e1] at e; cases e
    | some ns =>
      rw [e1] at e; cases e
      obtain ⟨a, vs, rfl, h, r⟩ := r.v_lst
      rw [asBls_of e1] at r
      rw [reps_bls r] at h
      exact ⟨a, ns, rfl, h, q _ _ (Same.refl _) (.bl _)⟩
  · cases e
theorem sem_any : Sem1 X (fun v H Q => rAny X.K [v] H Q) anyD := fun {F H x z v Q} al r e q => by
  unfold anyD at e
  split at e
  · rename_i xs
    cases e1 : asBls xs with
    | none => rw [e1] at e; cases e
    | some ns =>
      rw [e1] at e; cases e
      obtain ⟨a, vs, rfl, h, r⟩ := r.v_lst
      rw [asBls_of e1] at r
      rw [reps_bls r] at h
      exact ⟨a, ns, rfl, h, q _ _ (Same.refl _) (.bl _)⟩
  · cases e
/-- sorted: whole numbers -/
def sortI (ns : List Int) : List Int := ns.mergeSort fun a b => decide (a ≤ b)
theorem sortI_perm (ns : List Int) : (sortI ns).Perm ns := List.mergeSort_perm _ _
theorem sortI_pw (ns : List Int) : (sortI ns).Pairwise (· ≤ ·) := by
  have h := List.pairwise_mergeSort (le := fun a b : Int => decide (a ≤ b)) (fun a b c h1 h2 => by simp at *; omega) (fun a b => by simp; omega) ns
  exact h.imp fun {a b} h => by simpa using h
theorem sorted_eq {as bs : List Int} (p : as.Perm bs) (h1 : as.Pairwise (· ≤ ·)) (h2 : bs.Pairwise (· ≤ ·)) : as = bs :=
  p.eq_of_pairwise (le := (· ≤ ·)) (fun a b _ _ h1 h2 => by omega) h1 h2
def sortedD : D → Option (List D)
  | .lst xs => (asInts xs).map fun ns => (sortI ns).map D.int
  | _ => none
theorem sem_sorted : Sem1F X (fun v H Q => rSortedI X.K [v] H Q) sortedD := fun {F H x ds v Q} al r e q => by
  unfold sortedD at e
  split at e
  · rename_i xs
    cases e1 : asInts xs with
    | none => rw [e1] at e; cases e
    | some ns =>
      rw [e1] at e; cases e
      obtain ⟨a, vs, rfl, h, r⟩ := r.v_lst
      rw [asInts_of e1] at r
      rw [reps_ints r] at h
      refine ⟨a, ns, rfl, h, fun ns' p hp hw hn => ?_⟩
      rw [sorted_eq (hp.trans (sortI_perm ns).symm) hw (sortI_pw ns)]
      exact q p _ hn (Reps.ints _)
  · cases e
/-! ### isinstance -/
inductive Ty where
  | int | bool | str | tuple | list
  deriving DecidableEq
def Ty.nm : Ty → String
  | .int => "int" | .bool => "bool" | .str => "str" | .tuple => "tuple" | .list => "list"
def isB : Ty → D → Bool
  | .int, .int _ => true
  | .int, .bl _ => true
  | .bool, .bl _ => true
  | .str, .str _ => true
  | .tuple, .tup _ => true
  | .list, .lst _ => true
  | .list, .kls _ => true
  | _, _ => false
def tyN : D → String
  | .non => "NoneType" | .bl _ => "bool" | .int _ => "int" | .str _ => "str" | .tup _ => "tuple" | .lst _ => "list" | .kls _ => "list"
theorem kit_all (t : Ty) (x : D) : kitB (tyN x) t.nm = some (isB t x) := by
  have h : ∀ t : Ty, kitB "NoneType" t.nm = some (isB t .non) ∧ kitB "bool" t.nm = some (isB t (.bl true)) ∧ kitB "int" t.nm = some (isB t (.int 0)) ∧ kitB "str" t.nm = some (isB t (.str "")) ∧ kitB "tuple" t.nm = some (isB t (.tup [])) ∧ kitB "list" t.nm = some (isB t (.lst [])) := by
    intro t; cases t <;> decide +kernel
  obtain ⟨h1, h2, h3, h4, h5, h6⟩ := h t
  cases x with
  | non => exact h1
  | bl b => rw [show isB t (.bl b) = isB t (.bl true) by cases t <;> rfl]; exact h2
  | int b => rw [show isB t (.int b) = isB t (.int 0) by cases t <;> rfl]; exact h3
  | str b => rw [show isB t (.str b) = isB t (.str "") by cases t <;> rfl]; exact h4
  | tup b => rw [show isB t (.tup b) = isB t (.tup []) by cases t <;> rfl]; exact h5
  | lst b => rw [show isB t (.lst b) = isB t (.lst []) by cases t <;> rfl]; exact h6
  | kls b => rw [show isB t (.kls b) = isB t (.lst []) by cases t <;> rfl]; exact h6
theorem tyx_of {F : Addr → Prop} {H : Hp} {x : D} {v : V} (r : Bor X.K F H x v) : TyX X.K H v (.type (tyN x)) := by
  cases x with
  | non => rw [r.v_non]; exact .base .non
  | bl b => rw [r.v_bl]; exact .base (.bl _)
  | int b => rw [r.v_int]; exact .base (.int _)
  | str b => rw [r.v_str]; exact .base (.str _)
  | tup b =>
    obtain ⟨a, vs, rfl, h, _⟩ := r.v_tup
    rcases h with (h | ⟨o, h⟩) | ⟨o, its, n, h, c, _⟩
    · exact .base (.tup h)
    · exact .fTuple h
    · exact .kTuple h c
  | lst b =>
    obtain ⟨a, vs, rfl, h, _⟩ := r.v_lstH
    exact .base (.lst h)
  | kls b =>
    obtain ⟨a, vs, rfl, h, _⟩ := r.v_kls
    rcases h with (h | ⟨o, h⟩) | ⟨o, its, n, h, c, _⟩
    · exact .base (.lst h)
    · exact .base (.frz h)
    · exact .kList h c
def isiD (t : Ty) (x : D) : Option D := some (.bl (isB t x))
theorem sem_isi {t : Ty} : Sem1 X (fun v H Q => rIsi X.K [v, .ty t.nm] H Q) (isiD t) := fun {F H x z v Q} al r e q => by
  cases e
  exact ⟨v, .ty t.nm, _, _, _, rfl, .ty _, tyx_of r, kit_ty (kit_all t x), q _ _ (Same.refl _) (.bl _)⟩
theorem se_isi {t : Ty} {p : Opd} {e te : Expr} {pp : Pos} (hg : Gl X "isinstance") (hm : X.mg "isinstance" = none) (ha : SO X W p e) (ht : PE X te (tC (.ty t.nm)))
    (he : starEach (e :: [te]) X.env = (false, eval e X.env) :: starEach [te] X.env := by rfl) (he2 : starEach (te :: []) X.env = (false, eval te X.env) :: starEach [] X.env := by rfl) (hpl : (backTo pos (starEach [te] X.env)).any (·.1) = false := by rfl) : SE X W (mop1 (isiD t) p) (.Call (.Name "isinstance" pp) [e, te] [] pos) :=
  (pe_callB call_isi hg hm (by decide +kernel) (pa_cons ha (pa_cons ht pa_nil he2) he) (by decide) (by decide) he hpl).imp (op1_of sem_isi)
/-- isinstance(x, (T, U)) -/
def isi2D (t u : Ty) (x : D) : Option D := some (.bl (isB t x || isB u x))
theorem Bor.go {F : Addr → Prop} {H H' : Hp} {x : D} {v : V} (k : Same H H') (r : Bor X.K F H x v) : Bor X.K F H' x v := by
  have m : ∀ {d : D} {v : V}, Rep X.K F H d v → Rep X.K F H' d v := fun r => r.mono (fun a z => .inl z) fun a o e _ => k a o e
  have ms : ∀ {d : List D} {v : List V}, Reps X.K F H d v → Reps X.K F H' d v := fun r => r.mono (fun a z => .inl z) fun a o e _ => k a o e
  cases x with
  | lst ds => obtain ⟨a, vs, rfl, h, r⟩ := r; exact ⟨a, vs, rfl, k a _ h, ms r⟩
  | kls b => exact m r
  | non => exact m r
  | bl b => exact m r
  | int b => exact m r
  | str b => exact m r
  | tup b => exact m r
theorem sem_isi2 {t u : Ty} : Sem1 X (fun v H Q => ∀ p, H p = none → rIsiT X.K [v, .ref p] (upd H p (.tup [.ty t.nm, .ty u.nm])) Q) (isi2D t u) := fun {F H x z v Q} al r e q => by
  cases e
  intro p hp
  refine ⟨v, p, [.ty t.nm, .ty u.nm], _, [.type t.nm, .type u.nm], _, rfl, upd_same, .cons (.ty _) (.cons (.ty _) .nil), tyx_of (r.go (Same.new hp _)), ?_, q _ _ (Same.new hp _) (.bl _)⟩
  cases h1 : isB t x with
  | true => exact kitAny_cons (b := true) (by rw [← h1]; exact kit_ty (kit_all t x)) (fun z => by cases z) fun _ => rfl
  | false =>
    refine kitAny_cons (b := false) (by rw [← h1]; exact kit_ty (kit_all t x)) (fun _ => ?_) (fun z => by cases z)
    refine kitAny_cons (b := isB u x) (kit_ty (kit_all u x)) (fun h => ?_) fun h => ?_
    · rw [h]; exact kitAny_nil
    · rw [h]; rfl
theorem se_isi2 {t u : Ty} {p : Opd} {e te ue : Expr} {pp : Pos} {x1 tpos} (hg : Gl X "isinstance") (hm : X.mg "isinstance" = none) (ha : SO X W p e) (ht : PE X te (tC (.ty t.nm))) (hu : PE X ue (tC (.ty u.nm)))
    (he : starEach (e :: [.Tuple [te, ue] x1 tpos]) X.env = (false, eval e X.env) :: starEach [.Tuple [te, ue] x1 tpos] X.env := by rfl) (he2 : starEach (.Tuple [te, ue] x1 tpos :: []) X.env = (false, eval (.Tuple [te, ue] x1 tpos) X.env) :: starEach [] X.env := by rfl)
    (he3 : starEach (te :: [ue]) X.env = (false, eval te X.env) :: starEach [ue] X.env := by rfl) (he4 : starEach (ue :: []) X.env = (false, eval ue X.env) :: starEach [] X.env := by rfl)
    (hpl : (backTo pos (starEach [.Tuple [te, ue] x1 tpos] X.env)).any (·.1) = false := by rfl) : SE X W (mop1 (isi2D t u) p) (.Call (.Name "isinstance" pp) [e, .Tuple [te, ue] x1 tpos] [] pos) :=
  (pe_callB call_isiT hg hm (by decide +kernel) (pa_cons ha (pa_cons (pe_tup (pa_cons ht (pa_cons hu pa_nil he4) he3)) pa_nil he2) he) (by decide) (by decide) he hpl).imp fun σ H Q h =>
    op1_of (p := p) (r := fun v H Q => ∀ p, H p = none → rIsiT X.K [v, .ref p] (upd H p (.tup [.ty t.nm, .ty u.nm])) Q) sem_isi2 σ H Q h |> fun h => by
      have mono : ∀ (Q1 Q2 : VK), (∀ v H, Q1 v H → Q2 v H) → tO X W p σ H Q1 → tO X W p σ H Q2 := fun Q1 Q2 k h => by
        cases p with
        | val f =>
          obtain ⟨F0, ρ, R, o⟩ := h
          exact ⟨F0, ρ, R, o.imp fun x ρ' g v H' R' S' r' => k _ _ (g v H' R' S' r')⟩
        | slot i => obtain ⟨v, e, q⟩ := h; exact ⟨v, e, k _ _ q⟩
      exact mono _ _ (fun v H1 q => ⟨by show 2 ≤ sizeLine; decide, fun p hp => q p hp⟩) h
end
end Z

namespace Z
open PySem L2

/-! ### a slot is stored -/
def mstore (i : Nat) (u : SV) : M Flow := fun ρ => match ρ[i]? with
  | some (some (.own true _)) => .bad
  | some _ => .ok .nx (ρ.set i (some u))
  | none => .bad
section
variable {K : PySem.W.Frag} {F0 : Addr → Prop} {ρ : En} {σ : St} {H H0 : Hp} {i : Nat}
theorem set_get {α : Type} {l : List α} {i j : Nat} {x y : α} (h : (l.set i x)[j]? = some y) : (j = i ∧ y = x) ∨ (j ≠ i ∧ l[j]? = some y) := by
  rw [List.getElem?_set] at h
  split at h
  · rename_i e
    split at h
    · cases h; exact .inl ⟨e.symm, rfl⟩
    · cases h
  · rename_i e
    exact .inr ⟨fun z => e z.symm, h⟩
/-- data in slot i -/
theorem Rl.setD (R : Rl K F0 ρ σ H) {x : D} {v : V} (r : Rep K (Fav F0 ρ σ) H x v) (hi : i < ρ.length) : Rl K F0 (ρ.set i (some (.d x))) (σ.set i (some v)) H ∧ ∀ a, Own (ρ.set i (some (.d x))) (σ.set i (some v)) a → Own ρ σ a := by
  have less : ∀ a, Own (ρ.set i (some (.d x))) (σ.set i (some v)) a → Own ρ σ a := fun a ⟨j, b, ds, e, s⟩ => by
    rcases set_get e with ⟨_, z⟩ | ⟨ne, e⟩
    · cases z
    · rw [List.getElem?_set_ne (Ne.symm ne)] at s
      exact ⟨j, b, ds, e, s⟩
  have m : ∀ a, Fav F0 (ρ.set i (some (.d x))) (σ.set i (some v)) a → Fav F0 ρ σ a ∨ H a = none := fun a z => .inl (z.imp id (less a))
  have m2 : ∀ a o, H a = some o → ¬ Fav F0 ρ σ a → H a = some o := fun _ _ e _ => e
  refine ⟨⟨by simp only [List.length_set]; exact R.len, fun j y e => ?_, fun j b ds e => ?_, fun j k b c ds es a e1 e2 s1 s2 => ?_, R.alc⟩, less⟩
  · rcases set_get e with ⟨ej, z⟩ | ⟨ne, e⟩
    · cases z
      subst ej
      exact ⟨v, List.getElem?_set_self (by rw [← R.len]; exact hi), r.mono m m2⟩
    · obtain ⟨u, e1, r1⟩ := R.dat j y e
      exact ⟨u, by rw [List.getElem?_set_ne (Ne.symm ne)]; exact e1, r1.mono m m2⟩
  · rcases set_get e with ⟨ej, z⟩ | ⟨ne, e⟩
    · cases z
    · obtain ⟨a, vs, e1, e2, r1, n⟩ := R.own j b ds e
      exact ⟨a, vs, by rw [List.getElem?_set_ne (Ne.symm ne)]; exact e1, e2, r1.mono m m2, n⟩
  · rcases set_get e1 with ⟨_, z⟩ | ⟨ne1, e1⟩
    · cases z
    rcases set_get e2 with ⟨_, z⟩ | ⟨ne2, e2⟩
    · cases z
    rw [List.getElem?_set_ne (Ne.symm ne1)] at s1
    rw [List.getElem?_set_ne (Ne.symm ne2)] at s2
    exact R.inj j k b c ds es a e1 e2 s1 s2
/-- nothing in slot i -/
theorem Rl.setN (R : Rl K F0 ρ σ H) {u : Option V} : Rl K F0 (ρ.set i none) (σ.set i u) H ∧ ∀ a, Own (ρ.set i none) (σ.set i u) a → Own ρ σ a := by
  have less : ∀ a, Own (ρ.set i none) (σ.set i u) a → Own ρ σ a := fun a ⟨j, b, ds, e, s⟩ => by
    rcases set_get e with ⟨_, z⟩ | ⟨ne, e⟩
    · cases z
    · rw [List.getElem?_set_ne (Ne.symm ne)] at s
      exact ⟨j, b, ds, e, s⟩
  have m : ∀ a, Fav F0 (ρ.set i none) (σ.set i u) a → Fav F0 ρ σ a ∨ H a = none := fun a z => .inl (z.imp id (less a))
  have m2 : ∀ a o, H a = some o → ¬ Fav F0 ρ σ a → H a = some o := fun _ _ e _ => e
  refine ⟨⟨by simp only [List.length_set]; exact R.len, fun j y e => ?_, fun j b ds e => ?_, fun j k b c ds es a e1 e2 s1 s2 => ?_, R.alc⟩, less⟩
  · rcases set_get e with ⟨ej, z⟩ | ⟨ne, e⟩
    · cases z
    · obtain ⟨u, e1, r1⟩ := R.dat j y e
      exact ⟨u, by rw [List.getElem?_set_ne (Ne.symm ne)]; exact e1, r1.mono m m2⟩
  · rcases set_get e with ⟨ej, z⟩ | ⟨ne, e⟩
    · cases z
    · obtain ⟨a, vs, e1, e2, r1, n⟩ := R.own j b ds e
      exact ⟨a, vs, by rw [List.getElem?_set_ne (Ne.symm ne)]; exact e1, e2, r1.mono m m2, n⟩
  · rcases set_get e1 with ⟨_, z⟩ | ⟨ne1, e1⟩
    · cases z
    rcases set_get e2 with ⟨_, z⟩ | ⟨ne2, e2⟩
    · cases z
    rw [List.getElem?_set_ne (Ne.symm ne1)] at s1
    rw [List.getElem?_set_ne (Ne.symm ne2)] at s2
    exact R.inj j k b c ds es a e1 e2 s1 s2
/-- a new list in slot i -/
theorem Rl.setO {p : Addr} {ds : List D} {vs : List V} (R : Rl K (plus F0 p) ρ σ H) (np : ¬ F0 p) (hp : H p = some (.lst vs)) (r : Reps K (Fav (plus F0 p) ρ σ) H ds vs) (hi : i < ρ.length) :
    Rl K F0 (ρ.set i (some (.own false ds))) (σ.set i (some (.ref p))) H ∧ ∀ a, Own (ρ.set i (some (.own false ds))) (σ.set i (some (.ref p))) a → Own ρ σ a ∨ a = p := by
  have hiσ : i < σ.length := by rw [← R.len]; exact hi
  have less : ∀ a, Own (ρ.set i (some (.own false ds))) (σ.set i (some (.ref p))) a → Own ρ σ a ∨ a = p := fun a ⟨j, b, es, e, s⟩ => by
    rcases set_get e with ⟨ej, z⟩ | ⟨ne, e⟩
    · subst ej
      rw [List.getElem?_set_self hiσ] at s
      cases s; exact .inr rfl
    · rw [List.getElem?_set_ne (Ne.symm ne)] at s
      exact .inl ⟨j, b, es, e, s⟩
  have m : ∀ a, Fav F0 (ρ.set i (some (.own false ds))) (σ.set i (some (.ref p))) a → Fav (plus F0 p) ρ σ a ∨ H a = none := fun a z => .inl (by
    rcases z with z | z
    · exact .inl (.inl z)
    · rcases less a z with z | z
      · exact .inr z
      · exact .inl (.inr z))
  have m2 : ∀ a o, H a = some o → ¬ Fav (plus F0 p) ρ σ a → H a = some o := fun _ _ e _ => e
  refine ⟨⟨by simp only [List.length_set]; exact R.len, fun j y e => ?_, fun j b es e => ?_, fun j k b c es fs a e1 e2 s1 s2 => ?_, fun a h => R.alc a (.inl h)⟩, less⟩
  · rcases set_get e with ⟨ej, z⟩ | ⟨ne, e⟩
    · cases z
    · obtain ⟨u, e1, r1⟩ := R.dat j y e
      exact ⟨u, by rw [List.getElem?_set_ne (Ne.symm ne)]; exact e1, r1.mono m m2⟩
  · rcases set_get e with ⟨ej, z⟩ | ⟨ne, e⟩
    · cases z
      subst ej
      exact ⟨p, vs, List.getElem?_set_self hiσ, hp, r.mono m m2, np⟩
    · obtain ⟨a, vs, e1, e2, r1, n⟩ := R.own j b es e
      exact ⟨a, vs, by rw [List.getElem?_set_ne (Ne.symm ne)]; exact e1, e2, r1.mono m m2, fun z => n (.inl z)⟩
  · have notp : ∀ {j : Nat} {b : Bool} {es : List D} {a : Addr}, ρ[j]? = some (some (.own b es)) → σ[j]? = some (some (.ref a)) → a ≠ p := fun {j b es a} e s z => by
      obtain ⟨a', _, s', _, _, n⟩ := R.own j b es e
      rw [s] at s'; cases s'
      exact n (.inr z)
    rcases set_get e1 with ⟨ej, z1⟩ | ⟨ne1, f1⟩
    · rcases set_get e2 with ⟨ek, z2⟩ | ⟨ne2, f2⟩
      · rw [ej, ek]
      · rw [ej, List.getElem?_set_self hiσ] at s1; cases s1
        rw [List.getElem?_set_ne (Ne.symm ne2)] at s2
        exact absurd rfl (notp f2 s2)
    · rcases set_get e2 with ⟨ek, z2⟩ | ⟨ne2, f2⟩
      · rw [ek, List.getElem?_set_self hiσ] at s2; cases s2
        rw [List.getElem?_set_ne (Ne.symm ne1)] at s1
        exact absurd rfl (notp f1 s1)
      · rw [List.getElem?_set_ne (Ne.symm ne1)] at s1
        rw [List.getElem?_set_ne (Ne.symm ne2)] at s2
        exact R.inj j k b c es fs a f1 f2 s1 s2
theorem Stp.set {u : Option SV} {v : Option V} (hio : ∀ ds, ρ[i]? ≠ some (some (.own true ds))) (h : ∀ a, Own (ρ.set i u) (σ.set i v) a → Own ρ σ a ∨ H a = none) : Stp ρ σ H (ρ.set i u) (σ.set i v) H :=
  ⟨fun _ _ e _ => e, h, fun _ e => e, fun j ds e => by
    have ne : j ≠ i := fun z => by rw [z] at e; exact hio ds e
    exact ⟨List.getElem?_set_ne (Ne.symm ne), ds, by rw [List.getElem?_set_ne (Ne.symm ne)]; exact e⟩, List.length_set⟩
/-- the store, its outcome -/
theorem store_cases {u : SV} {P : Rs Flow → Prop} (hb : ¬ P .bad) (o : P (mstore i u ρ)) : i < ρ.length ∧ (∀ ds, ρ[i]? ≠ some (some (.own true ds))) ∧ P (.ok .nx (ρ.set i (some u))) := by
  unfold mstore at o
  split at o
  · exact (hb o).elim
  · rename_i hn e
    exact ⟨(List.getElem?_eq_some_iff.mp e).1, fun ds z => hn ds (by rw [z] at e; exact (Option.some.inj e).symm), o⟩
  · exact (hb o).elim
end

section
variable {X : Cx} {W : WX} {F0 : Addr → Prop} {ρ ρ1 : En} {σ σ1 : St} {H H1 : Hp} {Ds : Ends}
theorem OutS.step (S : Stp ρ σ H ρ1 σ1 H1) {r : Rs Flow} (o : OutS X W F0 ρ σ H Ds r) : OutS X W F0 ρ1 σ1 H1 Ds r := by
  match r, o with
  | .ok .nx ρ', o => exact fun σ' H' R T => o σ' H' R (S.trans T)
  | .ok .bk ρ', o => exact fun σ' H' R T => o σ' H' R (S.trans T)
  | .ok .ct ρ', o => exact fun σ' H' R T => o σ' H' R (S.trans T)
  | .ok (.rt x) ρ', o => exact fun v σ' H' R T => o v σ' H' R (S.trans T)
  | .ok (.rf ds) ρ', o => exact fun p vs σ' H' R T hp => o p vs σ' H' R (S.trans T) (hp.elim (S.own p) fun h => .inr (S.trk p h))
  | .exc e ρ', o => exact fun cv d σ' H' R T => o cv d σ' H' R (S.trans T)
theorem OutS.bind {β : Type} {f : M β} {g : β → M Flow} (o : OutS X W F0 ρ σ H Ds (mbind f g ρ)) : Out X W F0 ρ σ H (fun x ρ' => OutS X W F0 ρ σ H Ds (g x ρ')) (f ρ) := by
  unfold mbind at o
  cases e : f ρ with
  | ok x ρ' => rw [e] at o; exact o
  | exc x ρ' => rw [e] at o; exact fun cv d H' R S x => o cv d σ H' R S x
  | bad => rw [e] at o; exact o
/-- an expression first, then a statement's rest -/
theorem sqE {f : M D} {g : D → M Flow} {Q : VK} (R : Rl X.K F0 ρ σ H) (o : OutS X W F0 ρ σ H Ds (mbind f g ρ))
    (k : ∀ x ρ1 v H1, Rl X.K F0 ρ1 σ H1 → Stp ρ σ H ρ1 σ H1 → Rep X.K (Fav F0 ρ1 σ) H1 x v → OutS X W F0 ρ1 σ H1 Ds (g x ρ1) → Q v H1) : tE X W f σ H Q :=
  ⟨F0, ρ, R, o.bind.imp fun x ρ1 o1 v H1 R1 S1 r1 => k x ρ1 v H1 R1 S1 r1 (o1.step S1)⟩
theorem sqF {f : M (List D)} {g : List D → M Flow} {Q : VK} (R : Rl X.K F0 ρ σ H) (o : OutS X W F0 ρ σ H Ds (mbind f g ρ))
    (k : ∀ x ρ1 p vs H1, Rl X.K (plus F0 p) ρ1 σ H1 → Stp ρ σ H ρ1 σ H1 → H p = none → H1 p = some (.lst vs) → Reps X.K (Fav (plus F0 p) ρ1 σ) H1 x vs → OutS X W F0 ρ σ H Ds (g x ρ1) → Q (.ref p) H1) : tF X W f σ H Q :=
  ⟨F0, ρ, R, o.bind.imp fun x ρ1 o1 p vs H1 R1 S1 hp hv r1 => k x ρ1 p vs H1 R1 S1 hp hv r1 o1⟩
theorem sqT {f : M Bool} {g : Bool → M Flow} {Q : Bool → Hp → Prop} (R : Rl X.K F0 ρ σ H) (o : OutS X W F0 ρ σ H Ds (mbind f g ρ))
    (k : ∀ x ρ1 H1, Rl X.K F0 ρ1 σ H1 → Stp ρ σ H ρ1 σ H1 → OutS X W F0 ρ1 σ H1 Ds (g x ρ1) → Q x H1) : tT X W f σ H Q :=
  ⟨F0, ρ, R, o.bind.imp fun x ρ1 o1 H1 R1 S1 => k x ρ1 H1 R1 S1 (o1.step S1)⟩

/-! ### statements -/
variable {g k : M Flow} {st : Stmt} {rest : List Stmt} {pos : Pos}
def mseq (g k : M Flow) : M Flow := fun ρ => match g ρ with
  | .ok .nx ρ' => k ρ'
  | r => r
def mnx : M Flow := mpure .nx
theorem sss_nil : SSs X W mnx [] := pss_nil.imp fun D σ H ⟨F0, ρ, R, o⟩ => o σ H R (Stp.refl _ _ _)
theorem sss_cons (h1 : SS X W g st) (h2 : SSs X W k rest) : SSs X W (mseq g k) (st :: rest) := (pss_cons h1 h2).imp fun D σ H ⟨F0, ρ, R, o⟩ => by
  refine ⟨F0, ρ, R, ?_⟩
  unfold mseq at o
  cases e : g ρ with
  | bad => rw [e] at o; exact o
  | exc x ρ' => rw [e] at o; exact o
  | ok f ρ' =>
    rw [e] at o
    cases f with
    | nx => exact fun σ' H' R' S' => ⟨F0, ρ', R', OutS.step S' o⟩
    | bk => exact o
    | ct => exact o
    | rt x => exact o
    | rf x => exact o
theorem sss_one (h1 : SS X W g st) : SSs X W g [st] := pss_one h1
theorem ss_pass : SS X W mnx (.Pass pos) := ps_pass.imp fun D σ H ⟨F0, ρ, R, o⟩ => o σ H R (Stp.refl _ _ _)
theorem ss_break : SS X W (mpure .bk) (.Break pos) := ps_break.imp fun D σ H ⟨F0, ρ, R, o⟩ => o σ H R (Stp.refl _ _ _)
theorem ss_continue : SS X W (mpure .ct) (.Continue pos) := ps_continue.imp fun D σ H ⟨F0, ρ, R, o⟩ => o σ H R (Stp.refl _ _ _)
theorem ss_never : SS X W mbad st := ps_never.imp fun D σ H ⟨F0, ρ, R, o⟩ => o
theorem sss_never {sts : List Stmt} : SSs X W mbad sts := pss_never.imp fun D σ H ⟨F0, ρ, R, o⟩ => o
def mdo {α : Type} (f : M α) : M Flow := mbind f fun _ => mpure .nx
theorem ss_expr {f : M D} {e : Expr} (he : SE X W f e) (hs : swapsWith e none pos.line X.env = pure false := by rfl) : SS X W (mdo f) (.Expr e pos) := (ps_expr he hs).imp fun D σ H ⟨F0, ρ, R, o⟩ =>
  sqE R o fun x ρ1 v H1 R1 S1 r1 o1 => o1 σ H1 R1 (Stp.refl _ _ _)
def mret (f : M D) : M Flow := mbind f fun x => mpure (.rt x)
def mretF (f : M (List D)) : M Flow := mbind f fun x => mpure (.rf x)
theorem ss_ret {f : M D} {e : Expr} (he : SE X W f e) : SS X W (mret f) (.Return (some e) pos) := (ps_ret he).imp fun D σ H ⟨F0, ρ, R, o⟩ =>
  sqE R o fun x ρ1 v H1 R1 S1 r1 o1 => o1 v σ H1 R1 (Stp.refl _ _ _) r1
theorem ss_retF {f : M (List D)} {e : Expr} (he : SF X W f e) : SS X W (mretF f) (.Return (some e) pos) := (ps_ret he).imp fun D σ H ⟨F0, ρ, R, o⟩ =>
  sqF R o fun x ρ1 p vs H1 R1 S1 hp hv r1 o1 => o1 p vs σ H1 R1 S1 (.inr hp) hv r1
theorem ss_retN : SS X W (mpure (.rt .non)) (.Return none pos) := ps_retN.imp fun D σ H ⟨F0, ρ, R, o⟩ => o .non σ H R (Stp.refl _ _ _) .non
/-- return of a list of one's own -/
def mretO (i : Nat) : M Flow := fun ρ => match ρ[i]? with
  | some (some (.own false ds)) => .ok (.rf ds) (ρ.set i none)
  | _ => .bad
def mset (i : Nat) (f : M D) : M Flow := mbind f fun x => mstore i (.d x)
def msetF (i : Nat) (f : M (List D)) : M Flow := mbind f fun ds => mstore i (.own false ds)
theorem set_end {f : M D} {i : Nat} (R : Rl X.K F0 ρ σ H) (o : OutS X W F0 ρ σ H Ds (mset i f ρ)) : tE X W f σ H fun x H1 => Ds.nx (σ.set i (some x)) H1 :=
  sqE R o fun x ρ1 v H1 R1 S1 r1 o1 => by
    obtain ⟨hi, hn, o2⟩ := store_cases (P := OutS X W F0 ρ1 σ H1 Ds) (fun z => z) o1
    obtain ⟨R2, less⟩ := R1.setD r1 hi
    exact o2 _ H1 R2 (Stp.set hn fun a z => .inl (less a z))
theorem setF_end {f : M (List D)} {i : Nat} (R : Rl X.K F0 ρ σ H) (o : OutS X W F0 ρ σ H Ds (msetF i f ρ)) : tF X W f σ H fun x H1 => Ds.nx (σ.set i (some x)) H1 :=
  sqF R o fun x ρ1 p vs H1 R1 S1 hp hv r1 o1 => by
    obtain ⟨hi, hn, o2⟩ := store_cases (P := OutS X W F0 ρ σ H Ds) (fun z => z) o1
    have np : ¬ F0 p := fun z => by obtain ⟨o, e⟩ := R.alc p z; rw [hp] at e; cases e
    obtain ⟨R2, less⟩ := R1.setO np hv r1 hi
    refine o2 _ H1 R2 ⟨S1.keep, fun a z => ?_, S1.trk, fun j ds e => ?_, by rw [List.length_set]; exact S1.len⟩
    · rcases less a z with z | z
      · exact S1.own a z
      · rw [z]; exact .inr hp
    · obtain ⟨e1, ds', e2⟩ := S1.io j ds e
      have ne : j ≠ i := fun z => by rw [z] at e2; exact hn ds' e2
      exact ⟨by rw [List.getElem?_set_ne (Ne.symm ne)], ds', by rw [List.getElem?_set_ne (Ne.symm ne)]; exact e2⟩
theorem ss_set {i : Nat} {x : Str} {e : Expr} {f : M D} {pos' : Pos} (hN : X.N.Nodup) (hi : X.N[i]? = some x) (hx : Loc X.env.scope x) (he : SE X W f e) (hs : swapsWith e (some (.Name x pos')) pos.line X.env = pure false := by rfl) (hf : X.fn x = true ∨ X.env.scope.names.lookup x = some .local := by first | exact .inl rfl | exact .inr rfl | assumption) :
    SS X W (mset i f) (.Assign [.Name x pos'] e pos) := (ps_set hN hi hx he hs hf).imp fun D σ H ⟨F0, ρ, R, o⟩ => set_end R o
theorem ss_setF {i : Nat} {x : Str} {e : Expr} {f : M (List D)} {pos' : Pos} (hN : X.N.Nodup) (hi : X.N[i]? = some x) (hx : Loc X.env.scope x) (he : SF X W f e) (hs : swapsWith e (some (.Name x pos')) pos.line X.env = pure false := by rfl) (hf : X.fn x = true ∨ X.env.scope.names.lookup x = some .local := by first | exact .inl rfl | exact .inr rfl | assumption) :
    SS X W (msetF i f) (.Assign [.Name x pos'] e pos) := (ps_set hN hi hx he hs hf).imp fun D σ H ⟨F0, ρ, R, o⟩ => setF_end R o
def mifS (p : M Bool) (g k : M Flow) : M Flow := mbind p fun c => if c = true then g else k
theorem endS {g : M Flow} (R : Rl X.K F0 ρ σ H) (o : OutS X W F0 ρ σ H Ds (g ρ)) : tS X W g Ds σ H := ⟨F0, ρ, R, o⟩
theorem ss_if {c : Expr} {a b : List Stmt} {p : M Bool} (hc : ST X W p c) (ha : SSs X W g a) (hb : SSs X W k b) : SS X W (mifS p g k) (.If c a b pos) := (ps_if hc ha hb).imp fun D σ H ⟨F0, ρ, R, o⟩ =>
  sqT R o fun c ρ1 H1 R1 S1 o1 => by
    cases c with
    | true => exact iteT (endS R1 o1)
    | false => exact iteF (endS R1 o1)
/-! a list of one's own is written -/
theorem Rl.write {K : PySem.W.Frag} {i : Nat} {b : Bool} {ds ds' : List D} {a : Addr} {vs' : List V} (R : Rl K F0 ρ σ H) (e : ρ[i]? = some (some (.own b ds))) (s : σ[i]? = some (some (.ref a))) (r : Reps K (Fav F0 ρ σ) H ds' vs') :
    Rl K F0 (ρ.set i (some (.own b ds'))) σ (upd H a (.lst vs')) ∧ Stp ρ σ H (ρ.set i (some (.own b ds'))) σ (upd H a (.lst vs')) := by
  have hi : i < ρ.length := (List.getElem?_eq_some_iff.mp e).1
  obtain ⟨a', vs, s', hv, _, nf⟩ := R.own i b ds e
  rw [s] at s'; cases s'
  have oa : Own ρ σ a := ⟨i, b, ds, e, s⟩
  have same : ∀ c, Own (ρ.set i (some (.own b ds'))) σ c → Own ρ σ c := fun c ⟨j, b2, es, e2, s2⟩ => by
    rcases set_get e2 with ⟨ej, z⟩ | ⟨ne, e2⟩
    · subst ej; rw [s] at s2; cases s2; exact oa
    · exact ⟨j, b2, es, e2, s2⟩
  have m : ∀ c, Fav F0 (ρ.set i (some (.own b ds'))) σ c → Fav F0 ρ σ c ∨ H c = none := fun c z => .inl (z.imp id (same c))
  have m2 : ∀ c o, H c = some o → ¬ Fav F0 ρ σ c → upd H a (.lst vs') c = some o := fun c o e n => by
    rw [upd_ne fun z => n (.inr (by rw [z]; exact oa))]; exact e
  refine ⟨⟨by rw [List.length_set]; exact R.len, fun j y e1 => ?_, fun j b2 es e1 => ?_, fun j k b2 c es fs q e1 e2 s1 s2 => ?_, fun c z => ?_⟩, ⟨fun c o e n => ?_, fun c z => .inl (same c z), fun c z => ?_, fun j es e1 => ?_, List.length_set⟩⟩
  · rcases set_get e1 with ⟨_, z⟩ | ⟨ne, e1⟩
    · cases z
    · obtain ⟨u, e2, r1⟩ := R.dat j y e1
      exact ⟨u, e2, r1.mono m m2⟩
  · rcases set_get e1 with ⟨ej, z⟩ | ⟨ne, e1⟩
    · subst ej; cases z
      exact ⟨a, vs', s, upd_same, r.mono m m2, nf⟩
    · obtain ⟨c, us, e2, e3, r1, n⟩ := R.own j b2 es e1
      have nc : c ≠ a := fun z => ne (R.inj j i b2 b es ds a e1 e (by rw [← z]; exact e2) s)
      exact ⟨c, us, e2, by rw [upd_ne nc]; exact e3, r1.mono m m2, n⟩
  · have back : ∀ {j : Nat} {b2 : Bool} {es : List D}, (ρ.set i (some (.own b ds')))[j]? = some (some (.own b2 es)) → ∃ c fs, ρ[j]? = some (some (.own c fs)) := fun {j b2 es} e1 => by
      rcases set_get e1 with ⟨ej, z⟩ | ⟨ne, e1⟩
      · subst ej; exact ⟨_, _, e⟩
      · exact ⟨_, _, e1⟩
    obtain ⟨_, _, f1⟩ := back e1
    obtain ⟨_, _, f2⟩ := back e2
    exact R.inj j k _ _ _ _ q f1 f2 s1 s2
  · by_cases h : c = a
    · exact ⟨_, by rw [h]; exact upd_same⟩
    · rw [upd_ne h]; exact R.alc c z
  · rw [upd_ne fun z => n (by rw [z]; exact oa)]; exact e
  · by_cases h : c = a
    · rw [h, upd_same] at z; cases z
    · rw [upd_ne h] at z; exact z
  · by_cases h : j = i
    · subst h
      rw [e] at e1; cases e1
      exact ⟨rfl, ds', List.getElem?_set_self hi⟩
    · exact ⟨rfl, es, by rw [List.getElem?_set_ne (Ne.symm h)]; exact e1⟩
/-- slot i's list becomes ds -/
def mput (i : Nat) (f : List D → Option (List D)) : M Unit := fun ρ => match ρ[i]? with
  | some (some (.own b ds)) => match f ds with
    | some ds' => .ok () (ρ.set i (some (.own b ds')))
    | none => .bad
  | _ => .bad
theorem put_at {α : Type} {good : α → En → Prop} {ρ0 : En} {H0 : Hp} {i : Nat} {f : List D → Option (List D)} {k : Unit → M α} (R : Rl X.K F0 ρ σ H) (o : Out X W F0 ρ0 σ H0 good (mbind (mput i f) k ρ)) :
    ∃ a vs b ds ds', ρ[i]? = some (some (.own b ds)) ∧ σ[i]? = some (some (.ref a)) ∧ H a = some (.lst vs) ∧ Reps X.K (Fav F0 ρ σ) H ds vs ∧ f ds = some ds' ∧ Out X W F0 ρ0 σ H0 good (k () (ρ.set i (some (.own b ds')))) := by
  unfold mbind mput at o
  split at o
  · rename_i x ρ' e
    split at e
    · rename_i b ds e1
      split at e
      · rename_i ds' e2
        cases e
        obtain ⟨a, vs, e3, e4, r, _⟩ := R.own i b _ e1
        exact ⟨a, vs, b, _, _, e1, e3, e4, r, e2, o⟩
      · cases e
    · cases e
  · rename_i e
    split at e
    · split at e <;> cases e
    · cases e
  · exact o.elim
/-- a method of the list of slot i, with one argument: the answer and the new list -/
def mmeth1 (i : Nat) (sem : List D → D → Option (D × List D)) (f : M D) : M D := mbind (mown i) fun _ => mbind f fun x => mbind (mown i) fun ds => mbind (mopt (sem ds x)) fun z => mbind (mput i fun _ => some z.2) fun _ => mpure z.1
def mmeth0 (i : Nat) (sem : List D → Option (D × List D)) : M D := mbind (mown i) fun ds => mbind (mopt (sem ds)) fun z => mbind (mput i fun _ => some z.2) fun _ => mpure z.1
/-- what a method's rule asks is what sem says -/
def SemM1 (X : Cx) (r : V → List V → Hp → VK → Prop) (sem : List D → D → Option (D × List D)) : Prop := ∀ {F : Addr → Prop} {H : Hp} {a : Addr} {ds : List D} {vs : List V} {x : D} {v : V} {z : D × List D} {Q : VK}, H a = some (.lst vs) → Reps X.K F H ds vs → Rep X.K F H x v → sem ds x = some z →
  (∀ vs' w, Reps X.K F H z.2 vs' → Rep X.K F H z.1 w → Q w (upd H a (.lst vs'))) → r (.ref a) [v] H Q
def SemM0 (X : Cx) (r : V → List V → Hp → VK → Prop) (sem : List D → Option (D × List D)) : Prop := ∀ {F : Addr → Prop} {H : Hp} {a : Addr} {ds : List D} {vs : List V} {z : D × List D} {Q : VK}, H a = some (.lst vs) → Reps X.K F H ds vs → sem ds = some z →
  (∀ vs' w, Reps X.K F H z.2 vs' → Rep X.K F H z.1 w → Q w (upd H a (.lst vs'))) → r (.ref a) [] H Q
theorem put_end {α : Type} {ρ0 : En} {H0 : Hp} {good : α → En → Prop} {i : Nat} {z : List D} {k : Unit → M α} {a : Addr} {vs' : List V} (R : Rl X.K F0 ρ σ H) (s : σ[i]? = some (some (.ref a))) (r : Reps X.K (Fav F0 ρ σ) H z vs') (o : Out X W F0 ρ0 σ H0 good (mbind (mput i fun _ => some z) k ρ)) :
    ∃ ρ', Rl X.K F0 ρ' σ (upd H a (.lst vs')) ∧ Stp ρ σ H ρ' σ (upd H a (.lst vs')) ∧ Out X W F0 ρ0 σ H0 good (k () ρ') := by
  obtain ⟨a', vs, b, ds, ds', e1, e2, e3, _, e4, o2⟩ := put_at R o
  rw [s] at e2; cases e2
  cases e4
  obtain ⟨R2, S2⟩ := R.write e1 s r
  exact ⟨_, R2, S2, o2⟩
theorem se_meth1 {i : Nat} {sem : List D → D → Option (D × List D)} {r : V → List V → Hp → VK → Prop} {f : M D} {e : Expr} (hs : SemM1 X r sem) (h : PE X e (tBM X.K "list" r (tVar i) (tCons (tE X W f) tNil))) : SE X W (mmeth1 i sem f) e := h.imp fun σ H Q ⟨F0, ρ, R, o⟩ => by
  obtain ⟨a, us, xs, e1, e2, _, o1⟩ := own_at R o
  refine ⟨_, e1, .inl ⟨rfl, _, SqL.of e2⟩, seqE R o1 fun x ρ1 v H1 R1 S1 r1 o2 => ?_⟩
  obtain ⟨a', us', ds, e1', e2', r2, o3⟩ := own_at R1 o2
  rw [e1] at e1'; cases e1'
  obtain ⟨z, ez, o4⟩ := Out.opt (Out.bind o3)
  refine hs e2' r2 r1 ez fun vs' w r3 r4 => ?_
  obtain ⟨ρ2, R2, S2, o5⟩ := put_end R1 e1 r3 o4
  exact o5 w _ R2 (S1.trans S2) (S2.rep r4)
theorem se_meth0 {i : Nat} {sem : List D → Option (D × List D)} {r : V → List V → Hp → VK → Prop} {e : Expr} (hs : SemM0 X r sem) (h : PE X e (tBM0 X.K "list" r (tVar i))) : SE X W (mmeth0 i sem) e := h.imp fun σ H Q ⟨F0, ρ, R, o⟩ => by
  obtain ⟨a, us, xs, e1, e2, r2, o1⟩ := own_at R o
  obtain ⟨z, ez, o4⟩ := Out.opt (Out.bind o1)
  refine ⟨_, e1, .inl ⟨rfl, _, SqL.of e2⟩, hs e2 r2 ez fun vs' w r3 r4 => ?_⟩
  obtain ⟨ρ2, R2, S2, o5⟩ := put_end R e1 r3 o4
  exact o5 w _ R2 S2 (S2.rep r4)
def appD (ds : List D) (x : D) : Option (D × List D) := if ds.length < sizeLine then some (.non, ds ++ [x]) else none
theorem sem_app : SemM1 X rAppend appD := fun {F H a ds vs x v z Q} h rs rx e q => by
  unfold appD at e
  split at e
  · rename_i hz; cases e
    exact ⟨a, vs, v, rfl, rfl, h, by rw [← rs.length]; exact hz, q _ _ (rs.append (.cons rx .nil)) .non⟩
  · cases e
def popAtD (ds : List D) : D → Option (D × List D)
  | .int k => if -(2 ^ 63) ≤ k ∧ k < 2 ^ 63 then match seqIndex? k ds.length with
    | some j => (ds[j]?).map fun x => (x, ds.eraseIdx j)
    | none => none
    else none
  | _ => none
theorem sem_popAt : SemM1 X rPopAt popAtD := fun {F H a ds vs x v z Q} h rs rx e q => by
  unfold popAtD at e
  split at e
  · split at e
    · rename_i hz
      split at e
      · rename_i j ej
        cases e3 : ds[j]? with
        | none => rw [e3] at e; cases e
        | some y =>
          rw [e3] at e; cases e
          obtain ⟨u, hu, ru⟩ := rs.get e3
          rw [rs.length] at ej
          exact ⟨a, vs, _, j, u, rfl, by rw [rx.v_int], h, hz.1, hz.2, ej, hu, q _ _ (rs.erase j) ru⟩
      · cases e
    · cases e
  · cases e
def popD (ds : List D) : Option (D × List D) := (ds[ds.length - 1]?).map fun x => (x, ds.dropLast)
theorem Reps.dropLast {K : PySem.W.Frag} {F : Addr → Prop} {H : Hp} {ds : List D} {vs : List V} (r : Reps K F H ds vs) : Reps K F H ds.dropLast vs.dropLast := by
  rw [List.dropLast_eq_take, List.dropLast_eq_take, r.length]
  exact r.take _
theorem sem_pop : SemM0 X rPop popD := fun {F H a ds vs z Q} h rs e q => by
  unfold popD at e
  cases e3 : ds[ds.length - 1]? with
  | none => rw [e3] at e; cases e
  | some y =>
    rw [e3] at e; cases e
    obtain ⟨u, hu, ru⟩ := rs.get e3
    rw [rs.length] at hu
    exact ⟨a, vs, u, rfl, rfl, h, hu, q _ _ rs.dropLast ru⟩
/-! xs[k] = e of the list of slot i: the value first, then the index -/
def setIxD (ds : List D) (k x : D) : Option (List D) := match k with
  | .int k => (ixN ds.length k).map fun j => ds.set j x
  | _ => none
def msetIx (i : Nat) (g f : M D) : M Flow := mdo (mbind f fun x => mbind (mown i) fun _ => mbind g fun k => mbind (mown i) fun ds => mbind (mopt (setIxD ds k x)) fun ds' => mbind (mput i fun _ => some ds') fun _ => mpure ())
theorem ss_setIx {i : Nat} {f g : M D} {o ix e : Expr} {tpos : Pos} (ho : PE X o (tVar i)) (hg : SE X W g ix) (hf : SE X W f e) (hs : swapsWithSole [.Subscript o ix tpos] e pos.line X.env = pure false := by rfl) (hw : swappedStores [.Subscript o ix tpos] e X.env = pure none := by rfl)
    (h1 : (assignEach [.Subscript o ix tpos] X.env).map (·.2) = [assign (.Subscript o ix tpos) X.env] := by rfl)
    (ha : ∀ v, assign (.Subscript o ix tpos) X.env v = (do
      let ov ← holding [v] (eval o X.env)
      let iv ← holding [v, ov] (eval ix X.env)
      standAt tpos
      holding [v, ov, iv] (setItem ov iv v)
      release [v, ov, iv] []) := by intro _; rfl) : SS X W (msetIx i g f) (.Assign [.Subscript o ix tpos] e pos) :=
  (ps_asg hf (pg_sub ho hg set_list ha) hs hw h1).imp fun D σ H ⟨F0, ρ, R, o⟩ => by
    have o : Out X W F0 ρ σ H _ _ := OutS.bind o
    refine seqE R o fun x ρ1 v H1 R1 S1 r1 o1 => ?_
    obtain ⟨a, us, xs, e1, e2, _, o2⟩ := own_at R1 o1
    refine ⟨_, e1, seqE R1 o2 fun k ρ2 u H2 R2 S2 r2 o3 => ?_⟩
    obtain ⟨a', us', ds, e1', e2', r3, o4⟩ := own_at R2 o3
    rw [e1] at e1'; cases e1'
    obtain ⟨ds', ez, o5⟩ := Out.opt (Out.bind o4)
    unfold setIxD at ez
    split at ez
    · rename_i k
      cases ej : ixN ds.length k with
      | none => rw [ej] at ez; cases ez
      | some j =>
        rw [ej] at ez; cases ez
        rw [r3.length] at ej
        refine ⟨a, us', k, j, rfl, r2.v_int, e2', ej, ?_⟩
        obtain ⟨ρ3, R3, S3, o6⟩ := put_end R2 e1 (Reps.set (S2.rep r1) j r3) o5
        exact o6 σ _ R3 (S1.trans (S2.trans S3))
    · cases ez
end
end Z

namespace Z
open PySem L2

/-! ### targets -/
theorem wipe_get (σ : St) : ∀ (vs : List Nat) (i : Nat), (wipe σ vs)[i]? = if i ∈ vs ∧ i < σ.length then some none else σ[i]?
  | [], i => by rw [if_neg (by simp)]; rfl
  | v :: vs, i => by
    unfold wipe
    rw [List.getElem?_set, wipe_length, wipe_get σ vs i]
    by_cases h : v = i
    · subst h
      rw [if_pos rfl]
      by_cases hv : v < σ.length
      · rw [if_pos hv, if_pos ⟨by simp, hv⟩]
      · rw [if_neg hv, if_neg (fun z => hv z.2), List.getElem?_eq_none (by omega)]
    · rw [if_neg h]
      by_cases hi : i ∈ vs ∧ i < σ.length
      · rw [if_pos hi, if_pos ⟨List.mem_cons_of_mem _ hi.1, hi.2⟩]
      · rw [if_neg hi, if_neg (fun z => hi ⟨(List.mem_cons.mp z.1).resolve_left (fun e => h e.symm), z.2⟩)]
theorem wipe_set {σ : St} {vs : List Nat} {i : Nat} {x : Option V} (hi : i ∈ vs) : wipe (σ.set i x) vs = wipe σ vs := by
  apply List.ext_getElem?
  intro j
  rw [wipe_get, wipe_get, List.length_set]
  by_cases h : j ∈ vs ∧ j < σ.length
  · rw [if_pos h, if_pos h]
  · rw [if_neg h, if_neg h, List.getElem?_set]
    by_cases e : i = j
    · subst e
      have : ¬ i < σ.length := fun z => h ⟨hi, z⟩
      rw [if_pos rfl, if_neg this, List.getElem?_eq_none (by omega)]
    · rw [if_neg e]
section
variable {X : Cx} {W : WX} {F0 : Addr → Prop} {ρ ρ1 : En} {σ σ1 : St} {H H1 : Hp} {Ds : Ends}
/-- a target's reading: slots js alone are stored -/
def tG (X : Cx) (js : List Nat) (t : D → M Unit) : TG := fun v σ H Q => ∃ F0 ρ x, Rl X.K F0 ρ σ H ∧ Rep X.K (Fav F0 ρ σ) H x v ∧ match t x ρ with
  | .ok _ ρ' => ∀ σ' H', Rl X.K F0 ρ' σ' H' → Stp ρ σ H ρ' σ' H' → wipe σ' js = wipe σ js → Same H H' → Q σ' H'
  | _ => False
def tGs (X : Cx) (js : List Nat) (t : List D → M Unit) : TGs := fun vs σ H Q => ∃ F0 ρ xs, Rl X.K F0 ρ σ H ∧ Reps X.K (Fav F0 ρ σ) H xs vs ∧ match t xs ρ with
  | .ok _ ρ' => ∀ σ' H', Rl X.K F0 ρ' σ' H' → Stp ρ σ H ρ' σ' H' → wipe σ' js = wipe σ js → Same H H' → Q σ' H'
  | _ => False
abbrev SG (X : Cx) (js : List Nat) (t : D → M Unit) (e : Expr) : Prop := PG X e (tG X js t)
abbrev SGs (X : Cx) (js : List Nat) (t : List D → M Unit) (es : List Expr) : Prop := PGs X es (tGs X js t)
theorem _root_.L2.PG.imp {X : Cx} {e : Expr} {t t' : TG} (h : PG X e t) (k : ∀ v σ H Q, t' v σ H Q → t v σ H Q) : PG X e t' := ⟨fun pins s σ H v u Q I r q => h.run pins s σ H v u Q I r (k _ _ _ _ q)⟩
theorem _root_.L2.PGs.imp {X : Cx} {e : List Expr} {t t' : TGs} (h : PGs X e t) (k : ∀ v σ H Q, t' v σ H Q → t v σ H Q) : PGs X e t' := ⟨fun pins s σ H v u Q I r q => h.run pins s σ H v u Q I r (k _ _ _ _ q)⟩
def gnm (i : Nat) (x : D) : M Unit := fun ρ => match ρ[i]? with
  | some (some (.own true _)) => .bad
  | some _ => .ok () (ρ.set i (some (.d x)))
  | none => .bad
theorem gnm_ok {i : Nat} {x : D} {P : Rs Unit → Prop} (hb : ¬ P .bad) (o : P (gnm i x ρ)) : i < ρ.length ∧ (∀ ds, ρ[i]? ≠ some (some (.own true ds))) ∧ P (.ok () (ρ.set i (some (.d x)))) := by
  unfold gnm at o
  split at o
  · exact (hb o).elim
  · rename_i hn e
    exact ⟨(List.getElem?_eq_some_iff.mp e).1, fun ds z => hn ds (by rw [z] at e; exact (Option.some.inj e).symm), o⟩
  · exact (hb o).elim
theorem sg_name {js : List Nat} {i : Nat} {x : Str} {pos : Pos} (hj : i ∈ js) (h : PG X (.Name x pos) (gName i)) : SG X js (gnm i) (.Name x pos) := h.imp fun v σ H Q ⟨F0, ρ, x, R, r, o⟩ => by
  obtain ⟨hi, hn, o2⟩ := gnm_ok (ρ := ρ) (i := i) (x := x) (P := fun o => match o with
    | .ok _ ρ' => ∀ σ' H', Rl X.K F0 ρ' σ' H' → Stp ρ σ H ρ' σ' H' → wipe σ' js = wipe σ js → Same H H' → Q σ' H'
    | _ => False) (fun z => z) o
  obtain ⟨R2, less⟩ := R.setD r hi
  exact o2 _ H R2 (Stp.set hn fun a z => .inl (less a z)) (wipe_set hj) (Same.refl _)
def gnil (xs : List D) : M Unit := match xs with
  | [] => mpure ()
  | _ => mbad
def gcons (t : D → M Unit) (u : List D → M Unit) (xs : List D) : M Unit := match xs with
  | x :: r => mbind (t x) fun _ => u r
  | [] => mbad
theorem sg_nil {js : List Nat} : SGs X js gnil [] := pgs_nil.imp fun vs σ H Q ⟨F0, ρ, xs, R, r, o⟩ => by
  cases r with
  | nil => exact ⟨rfl, o σ H R (Stp.refl _ _ _) rfl (Same.refl _)⟩
  | cons h r => exact o.elim
theorem sg_cons {js : List Nat} {t : D → M Unit} {u : List D → M Unit} {e : Expr} {es : List Expr} (h1 : SG X js t e) (h2 : SGs X js u es) (hs : (assignEach (e :: es) X.env).map (·.2) = assign e X.env :: (assignEach es X.env).map (·.2) := by rfl) : SGs X js (gcons t u) (e :: es) :=
  (pgs_cons h1 h2 hs).imp fun vs σ H Q ⟨F0, ρ, xs, R, r, o⟩ => by
    cases r with
    | nil => exact o.elim
    | cons h r =>
      refine ⟨_, _, rfl, F0, ρ, _, R, h, ?_⟩
      unfold gcons mbind at o
      simp only at o
      split at o
      · rename_i a ρ1 e
        split at e
        · rename_i b ρ2 e1
          rw [e1]
          intro σ1 H1 R1 S1 w1 k1
          refine ⟨F0, ρ2, _, R1, S1.reps r, ?_⟩
          rw [e]
          exact fun σ2 H2 R2 S2 w2 k2 => o σ2 H2 R2 (S1.trans S2) (w2.trans w1) (k1.trans k2)
        · cases e
        · cases e
      · exact o.elim
def gtup (n : Nat) (t : List D → M Unit) (x : D) : M Unit := match x with
  | .tup xs => if xs.length = n then t xs else mbad
  | _ => mbad
theorem sg_tup {js : List Nat} {es : List Expr} {k : Nat} {t : List D → M Unit} {n : Nat} {pos : Pos} (hc : X.calm = true) (h : SGs X js t es)
    (hn : (assignEach es X.env).length = n := by rfl) (hst : (assignEach es X.env).findIdx? (·.1) = none := by rfl) : SG X js (gtup n t) (.Tuple es k pos) := (pg_tup hc h hn hst).imp fun v σ H Q ⟨F0, ρ, x, R, r, o⟩ => by
  unfold gtup at o
  cases r with
  | @tup a vs ds h m r =>
    simp only at o
    by_cases hl : ds.length = n
    · rw [if_pos hl] at o
      exact ⟨_, _, rfl, h, by rw [← r.length]; exact hl, F0, ρ, _, R, r, o⟩
    · rw [if_neg hl] at o
      exact o.elim
  | non => exact o.elim
  | bl b => exact o.elim
  | int b => exact o.elim
  | str b => exact o.elim
  | lst h m r => exact o.elim
  | kls h m r => exact o.elim

/-! ### what is walked -/
/-- J yields the data ds, as long as what is not in F stays -/
def Iters (K : PySem.W.Frag) (F : Addr → Prop) (H1 : Hp) (J : It) (ds : List D) : Prop := ∀ H2, (∀ a o, H1 a = some o → ¬ F a → H2 a = some o) → J.stop ds.length H2 ∧
  ∀ i d, ds[i]? = some d → J.go i H2 ∧ ∀ x H3, J.yld i H2 x H3 → Same H2 H3 ∧ ∀ F' : Addr → Prop, (∀ a, F' a → F a ∨ H1 a = none) → (∀ a, F' a → ∃ o, H2 a = some o) → Rep K F' H3 d x
def tI (X : Cx) (W : WX) (f : M (List D)) : TI := fun σ H R => ∃ F0 ρ, Rl X.K F0 ρ σ H ∧ Out X W F0 ρ σ H (fun ds ρ' => ∀ J H', Rl X.K F0 ρ' σ H' → Stp ρ σ H ρ' σ H' → Iters X.K (Fav F0 ρ' σ) H' J ds → R J H') (f ρ)
abbrev SI (X : Cx) (W : WX) (f : M (List D)) (tg iter : Expr) : Prop := PI X tg iter (tI X W f)
theorem _root_.L2.PI.imp {X : Cx} {tg e : Expr} {t t' : TI} (h : PI X tg e t) (k : ∀ σ H R, t' σ H R → t σ H R) : PI X tg e t' := ⟨fun pins s σ H R I q => h.run pins s σ H R I (k _ _ _ q)⟩
def itemsD : D → Option (List D)
  | .lst xs => some xs
  | .kls xs => some xs
  | .tup xs => some xs
  | _ => none
/-- a list or a tuple -/
def iSeq (K : PySem.W.Frag) (tl : TE) : TI := fun σ H R => tl σ H fun x H1 => ∃ a, x = .ref a ∧ (((∃ xs, SqL K H1 a xs) ∧ R (Itl K a) H1) ∨ ((∃ xs, SqT K H1 a xs) ∧ R (Itt K a) H1))
theorem pi_seq {tg l : Expr} {tl : TE} (hl : PE X l tl) : PI X tg l (iSeq X.K tl) := by
  refine ⟨fun pins s σ H R I h => ?_⟩
  refine thn (hl.run pins s σ H _ I h) fun v s1 ⟨x, H1, I1, r1, q1⟩ => ?_
  obtain ⟨a, e, q⟩ := q1
  subst e
  cases r1
  rcases q with ⟨⟨xs, hq⟩, q⟩ | ⟨⟨xs, hq⟩, q⟩
  · obtain ⟨its, rv, p, hz⟩ := I1.list hq
    refine wpAny_pyIter_list p.isList ?_
    refine ⟨s1.heap.objs.size, [s1.heap.objs.size], _, _, H1, rfl, I1.kept (t' := s1.toks) fun b o e => Heap.get?_push_of_some _ e, turn_list a _, ⟨_, Heap.get?_push_size _ rfl, rfl, rfl⟩, fun b hb => ?_, q⟩
    have e : b = s1.heap.objs.size := by simpa using hb
    subst e
    exact I1.fpOk (Nat.le_refl _) (I1.hok.fresh (Nat.le_refl _))
  · obtain ⟨its, rv, p, hz⟩ := I1.tuple hq
    refine wpAny_pyIter_tuple (show s1.heap.IsTuple a its.toArray from p) ?_
    refine ⟨s1.heap.objs.size, [s1.heap.objs.size], _, _, H1, rfl, I1.kept (t' := s1.toks) fun b o e => Heap.get?_push_of_some _ e, turn_tuple a _, ⟨_, Heap.get?_push_size _ rfl, rfl, rfl⟩, fun b hb => ?_, q⟩
    have e : b = s1.heap.objs.size := by simpa using hb
    subst e
    exact I1.fpOk (Nat.le_refl _) (I1.hok.fresh (Nat.le_refl _))
theorem SqL_inj {K : PySem.W.Frag} {H : Hp} {a : Addr} {xs ys : List V} (h : H a = some (.lst xs)) (h' : Rd H a (.lst ys)) : xs = ys := by
  rcases h' with h' | ⟨o, h'⟩
  · rw [h] at h'; cases h'; rfl
  · rw [h] at h'; cases h'
/-- two readings of what is not changed -/
theorem iters_kls {K : PySem.W.Frag} {F : Addr → Prop} {H : Hp} {ds : List D} {v : V} (r : Rep K F H (.kls ds) v) : ∃ a, v = .ref a ∧ (∃ xs, SqL K H a xs) ∧ Iters K F H (Itl K a) ds := by
  cases r with
  | @kls a vs _ h n r =>
    refine ⟨a, rfl, ⟨vs, h⟩, fun H2 k => ?_⟩
    have h2 : SqL K H2 a vs := by
      rcases n with n | n
      · exact ZqL.go h fun o e => k a o e n
      · exact n H2
    refine ⟨⟨vs, h2, by rw [r.length]; exact Nat.le_refl _⟩, fun i d e => ?_⟩
    obtain ⟨x, ex, rx⟩ := r.get e
    refine ⟨⟨vs, x, h2, ex⟩, fun y H3 hy => ?_⟩
    obtain ⟨e3, hy⟩ := hy
    subst e3
    have e4 := hy vs h2
    rw [ex] at e4; cases e4
    exact ⟨Same.refl _, fun F' hF _ => rx.mono hF k⟩
theorem iters_lst {K : PySem.W.Frag} {F : Addr → Prop} {H : Hp} {ds : List D} {v : V} (r : Rep K F H (.lst ds) v) : ∃ a, v = .ref a ∧ (∃ xs, SqL K H a xs) ∧ Iters K F H (Itl K a) ds := by
  cases r with
  | lst h n r => exact iters_kls (.kls (SqL.of h) (.inl n) r)
theorem iters_tup {K : PySem.W.Frag} {F : Addr → Prop} {H : Hp} {ds : List D} {v : V} (r : Rep K F H (.tup ds) v) : ∃ a, v = .ref a ∧ (∃ xs, SqT K H a xs) ∧ Iters K F H (Itt K a) ds := by
  cases r with
  | @tup a vs _ h n r =>
    refine ⟨a, rfl, ⟨vs, h⟩, fun H2 k => ?_⟩
    have h2 : SqT K H2 a vs := by
      rcases n with n | n
      · exact ZqT.go h fun o e => k a o e n
      · exact n H2
    refine ⟨⟨vs, h2, by rw [r.length]; exact Nat.le_refl _⟩, fun i d e => ?_⟩
    obtain ⟨x, ex, rx⟩ := r.get e
    refine ⟨⟨vs, x, h2, ex⟩, fun y H3 hy => ?_⟩
    obtain ⟨e3, hy⟩ := hy
    subst e3
    have e4 := hy vs h2
    rw [ex] at e4; cases e4
    exact ⟨Same.refl _, fun F' hF _ => rx.mono hF k⟩
def mitems (f : M D) : M (List D) := mbind f fun x => mopt (itemsD x)
theorem si_seq {f : M D} {tg l : Expr} (hl : SE X W f l) : SI X W (mitems f) tg l := (pi_seq hl).imp fun σ H Rk ⟨F0, ρ, R, o⟩ => by
  refine seqE R o fun x ρ1 v H1 R1 S1 r1 o1 => ?_
  obtain ⟨ds, e, q⟩ := Out.opt o1
  cases x with
  | lst xs =>
    cases e
    obtain ⟨a, rfl, hx, hi⟩ := iters_lst r1
    exact ⟨a, rfl, .inl ⟨hx, q _ H1 R1 S1 hi⟩⟩
  | kls xs =>
    cases e
    obtain ⟨a, rfl, hx, hi⟩ := iters_kls r1
    exact ⟨a, rfl, .inl ⟨hx, q _ H1 R1 S1 hi⟩⟩
  | tup xs =>
    cases e
    obtain ⟨a, rfl, hx, hi⟩ := iters_tup r1
    exact ⟨a, rfl, .inr ⟨hx, q _ H1 R1 S1 hi⟩⟩
  | non => cases e
  | bl b => cases e
  | int b => cases e
  | str b => cases e
/-- ranges -/
def rangeL (lo : Int) (n : Nat) : List D := (List.range n).map fun (i : Nat) => D.int (lo + (i : Int))
theorem iters_range {K : PySem.W.Frag} {F : Addr → Prop} {H : Hp} (lo : Int) (n : Nat) : Iters K F H (Itr lo n) (rangeL lo n) := fun H2 k => by
  have hl : (rangeL lo n).length = n := by simp [rangeL]
  refine ⟨by show n ≤ _; rw [hl]; exact Nat.le_refl _, fun i d e => ?_⟩
  have hi : i < n := by have := (List.getElem?_eq_some_iff.mp e).1; rw [hl] at this; exact this
  refine ⟨hi, fun x H3 hy => ?_⟩
  obtain ⟨e3, e4⟩ := hy
  subst e3 e4
  unfold rangeL at e
  rw [List.getElem?_map, List.getElem?_range hi] at e
  cases e
  exact ⟨Same.refl _, fun F' _ _ => .int _⟩
def rng1 : List D → Option (List D)
  | [.int n] => if -(2 ^ 62) ≤ n ∧ n < 2 ^ 62 then some (rangeL 0 n.toNat) else none
  | _ => none
def rng2 : List D → Option (List D)
  | [.int a, .int b] => if -(2 ^ 62) ≤ a ∧ a < 2 ^ 62 ∧ -(2 ^ 62) ≤ b ∧ b < 2 ^ 62 then some (rangeL a (b - a).toNat) else none
  | _ => none
def mrng (sem : List D → Option (List D)) (f : M (List D)) : M (List D) := mbind f fun xs => mopt (sem xs)
theorem si_range1 {f : M (List D)} {tg a : Expr} {p pos : Pos} (hg : Gl X "range") (hm : X.mg "range" = none) (ha : SA X W f [a]) (hs : starEach [a] X.env = [(false, eval a X.env)] := by rfl) : SI X W (mrng rng1 f) tg (.Call (.Name "range" p) [a] [] pos) :=
  (pi_range1 hg hm ha hs).imp fun σ H Rk ⟨F0, ρ, R, o⟩ => seqA R o fun xs ρ1 vs H1 R1 S1 r1 o1 => by
    obtain ⟨ds, e, q⟩ := Out.opt o1
    unfold rng1 at e
    split at e
    · split at e
      · rename_i hz; cases e
        cases r1 with
        | cons h r => cases r; rw [h.v_int]; exact ⟨_, rfl, hz.1, hz.2, q _ H1 R1 S1 (iters_range _ _)⟩
      · cases e
    · cases e
theorem si_range2 {f : M (List D)} {tg a b : Expr} {p pos : Pos} (hg : Gl X "range") (hm : X.mg "range" = none) (ha : SA X W f [a, b]) (hs : starEach [a, b] X.env = [(false, eval a X.env), (false, eval b X.env)] := by rfl) (hs2 : starEach [b] X.env = [(false, eval b X.env)] := by rfl) : SI X W (mrng rng2 f) tg (.Call (.Name "range" p) [a, b] [] pos) :=
  (pi_range2 hg hm ha hs hs2).imp fun σ H Rk ⟨F0, ρ, R, o⟩ => seqA R o fun xs ρ1 vs H1 R1 S1 r1 o1 => by
    obtain ⟨ds, e, q⟩ := Out.opt o1
    unfold rng2 at e
    split at e
    · split at e
      · rename_i hz; cases e
        cases r1 with
        | cons h r => cases r with
          | cons h' r => cases r; rw [h.v_int, h'.v_int]; exact ⟨_, _, rfl, hz, q _ H1 R1 S1 (iters_range _ _)⟩
      · cases e
    · cases e
def mrev (f : M D) : M (List D) := mbind f fun x => mopt ((itemsD x).map List.reverse)
/-- reversed(xs) -/
theorem si_rev {f : M D} {tg e : Expr} {p pos : Pos} (hg : Gl X "reversed") (hm : X.mg "reversed" = none) (he : SE X W f e) (hs : starEach [e] X.env = (false, eval e X.env) :: starEach [] X.env := by rfl) : SI X W (mrev f) tg (.Call (.Name "reversed" p) [e] [] pos) :=
  (RT.pi_revA hg hm he hs).imp fun σ H Rk ⟨F0, ρ, R, o⟩ => by
    refine seqE R o fun x ρ1 v H1 R1 S1 r1 o1 => ?_
    obtain ⟨ds, e, q⟩ := Out.opt o1
    have rev : ∀ {α : Type} {l : List α} {i : Nat} {d : α}, l.reverse[i]? = some d → i < l.length ∧ l[l.length - 1 - i]? = some d := fun {α l i d} e => by
      have hi : i < l.length := by have := (List.getElem?_eq_some_iff.mp e).1; rw [List.length_reverse] at this; exact this
      rw [List.getElem?_reverse hi] at e
      exact ⟨hi, e⟩
    cases x with
    | lst xs =>
      cases e
      cases r1 with
      | @lst a vs _ h n r =>
        have n : ¬ Fav F0 ρ1 σ a ∨ ∀ H', SqL X.K H' a vs := .inl n
        have h : SqL X.K H1 a vs := SqL.of h
        refine ⟨a, vs, rfl, .inl ⟨h, q _ H1 R1 S1 fun H2 k => ?_⟩⟩
        have h2 : SqL X.K H2 a vs := by
          rcases n with n | n
          · exact ZqL.go h fun o e => k a o e n
          · exact n H2
        refine ⟨by show vs.length ≤ _; rw [List.length_reverse, r.length]; exact Nat.le_refl _, fun i d e => ?_⟩
        obtain ⟨hi, e⟩ := rev e
        obtain ⟨y, ey, ry⟩ := r.get e
        rw [r.length] at ey hi
        refine ⟨⟨hi, vs, y, h2, ey⟩, fun z H3 hy => ?_⟩
        obtain ⟨e3, hy⟩ := hy
        subst e3
        have e4 := hy vs h2
        rw [ey] at e4; cases e4
        exact ⟨Same.refl _, fun F' hF _ => ry.mono hF k⟩
    | kls xs =>
      cases e
      cases r1 with
      | @kls a vs _ h n r =>
        refine ⟨a, vs, rfl, .inl ⟨h, q _ H1 R1 S1 fun H2 k => ?_⟩⟩
        have h2 : SqL X.K H2 a vs := by
          rcases n with n | n
          · exact ZqL.go h fun o e => k a o e n
          · exact n H2
        refine ⟨by show vs.length ≤ _; rw [List.length_reverse, r.length]; exact Nat.le_refl _, fun i d e => ?_⟩
        obtain ⟨hi, e⟩ := rev e
        obtain ⟨y, ey, ry⟩ := r.get e
        rw [r.length] at ey hi
        refine ⟨⟨hi, vs, y, h2, ey⟩, fun z H3 hy => ?_⟩
        obtain ⟨e3, hy⟩ := hy
        subst e3
        have e4 := hy vs h2
        rw [ey] at e4; cases e4
        exact ⟨Same.refl _, fun F' hF _ => ry.mono hF k⟩
    | tup xs =>
      cases e
      cases r1 with
      | @tup a vs _ h n r =>
        refine ⟨a, vs, rfl, .inr ⟨h, q _ H1 R1 S1 fun H2 k => ?_⟩⟩
        have h2 : SqT X.K H2 a vs := by
          rcases n with n | n
          · exact ZqT.go h fun o e => k a o e n
          · exact n H2
        refine ⟨by show vs.length ≤ _; rw [List.length_reverse, r.length]; exact Nat.le_refl _, fun i d e => ?_⟩
        obtain ⟨hi, e⟩ := rev e
        obtain ⟨y, ey, ry⟩ := r.get e
        rw [r.length] at ey hi
        refine ⟨⟨hi, vs, y, h2, ey⟩, fun z H3 hy => ?_⟩
        obtain ⟨e3, hy⟩ := hy
        subst e3
        have e4 := hy vs h2
        rw [ey] at e4; cases e4
        exact ⟨Same.refl _, fun F' hF _ => ry.mono hF k⟩
    | non => cases e
    | bl b => cases e
    | int b => cases e
    | str b => cases e

/-! ### for -/
def mfor (t : D → M Unit) (body : M Flow) : List D → M Flow
  | [] => mnx
  | x :: r => fun ρ => match t x ρ with
    | .ok _ ρ1 => match body ρ1 with
      | .ok .nx ρ2 => mfor t body r ρ2
      | .ok .ct ρ2 => mfor t body r ρ2
      | .ok .bk ρ2 => .ok .nx ρ2
      | o => o
    | _ => .bad
def mforS (items : M (List D)) (t : D → M Unit) (body : M Flow) : M Flow := mbind items fun ds => mfor t body ds
theorem ss_for {iter tg : Expr} {body : List Stmt} {f : M (List D)} {js : List Nat} {t : D → M Unit} {g : M Flow} {pos : Pos} (hp : PassesOwn (model X.prog X.w) X.A X.env X.xe) (hc : X.calm = true) (hi : SI X W f tg iter) (hg : SG X js t tg) (hb : SSs X W g body)
    (h : PS X (.For tg iter body [] pos) (tFor (tI X W f) (tG X js t) (tS X W g))) : SS X W (mforS f t g) (.For tg iter body [] pos) := h.imp fun D σ H ⟨F0, ρ, R, o⟩ => by
  refine ⟨F0, ρ, R, (OutS.bind o).imp fun ds ρ1 o1 J H1 R1 S1 it => ?_⟩
  have o1 := OutS.step S1 o1
  refine ⟨fun i m σ2 H2 => m = ds.length - i ∧ i ≤ ds.length ∧ ∃ ρ2, Rl X.K F0 ρ2 σ2 H2 ∧ Stp ρ1 σ H1 ρ2 σ2 H2 ∧ OutS X W F0 ρ2 σ2 H2 D (mfor t g (ds.drop i) ρ2), ⟨_, rfl, Nat.zero_le _, ρ1, R1, Stp.refl _ _ _, o1⟩, ?_⟩
  rintro i m σ2 H2 ⟨rfl, hi, ρ2, R2, S2, o2⟩
  have keep : ∀ a o, H1 a = some o → ¬ Fav F0 ρ1 σ a → H2 a = some o := fun a o e n => S2.keep a o e fun z => n (.inr z)
  obtain ⟨st, gos⟩ := it H2 keep
  by_cases hlt : i < ds.length
  · have e : ds[i]? = some ds[i] := List.getElem?_eq_getElem hlt
    obtain ⟨go, ys⟩ := gos i _ e
    rw [List.drop_eq_getElem_cons hlt] at o2
    refine .inr ⟨go, fun σ' H' => ∃ ρ', Rl X.K F0 ρ' σ' H' ∧ Stp ρ1 σ H1 ρ' σ' H' ∧ OutS X W F0 ρ' σ' H' D (mfor t g (ds.drop (i + 1)) ρ'), fun σ' H' ⟨ρ', a, b, c⟩ => ⟨_, by omega, rfl, hlt, ρ', a, b, c⟩, fun x H3 hy => ?_⟩
    obtain ⟨k3, rep⟩ := ys x H3 hy
    have r := rep (Fav F0 ρ2 σ2) (fun a z => z.elim (fun z => .inl (.inl z)) fun z => (S2.own a z).imp .inr id) (fun a z => R2.fav_alc a z)
    have R3 := R2.same k3
    have S3 : Stp ρ1 σ H1 ρ2 σ2 H3 := S2.trans (Stp.same k3)
    refine ⟨F0, ρ2, _, R3, r, ?_⟩
    unfold mfor at o2
    cases e4 : t ds[i] ρ2 with
    | bad => rw [e4] at o2; exact o2.elim
    | exc x ρ' => rw [e4] at o2; exact o2.elim
    | ok u ρ4 =>
      rw [e4] at o2
      refine fun σ4 H4 R4 S4 _ _ => ⟨F0, ρ4, R4, ?_⟩
      have o2 := OutS.step ((Stp.same k3).trans S4) o2
      simp only at o2
      cases e5 : g ρ4 with
      | bad => rw [e5] at o2; exact o2.elim
      | exc x ρ' => rw [e5] at o2; exact o2
      | ok fl ρ5 =>
        rw [e5] at o2
        cases fl with
        | nx => exact fun σ5 H5 R5 S5 => ⟨ρ5, R5, S3.trans (S4.trans S5), OutS.step S5 o2⟩
        | ct => exact fun σ5 H5 R5 S5 => ⟨ρ5, R5, S3.trans (S4.trans S5), OutS.step S5 o2⟩
        | bk => exact fun σ5 H5 R5 S5 => o2 σ5 H5 R5 S5
        | rt x => exact o2
        | rf x => exact o2
  · have e : i = ds.length := by omega
    subst e
    rw [List.drop_length] at o2
    exact .inl ⟨st, o2 σ2 H2 R2 (Stp.refl _ _ _)⟩

/-! ### while -/
def mwhile (p : M Bool) (body : M Flow) : Nat → M Flow
  | 0 => mbad
  | n + 1 => mbind p fun c => if c = true then fun ρ => match body ρ with
      | .ok .nx ρ2 => mwhile p body n ρ2
      | .ok .ct ρ2 => mwhile p body n ρ2
      | .ok .bk ρ2 => .ok .nx ρ2
      | o => o
    else mnx
theorem ss_while {c : Expr} {body : List Stmt} {p : M Bool} {g : M Flow} {pos : Pos} (n : Nat) (hp : PassesOwn (model X.prog X.w) X.A X.env X.xe) (hc : ST X W p c) (hb : SSs X W g body) : SS X W (mwhile p g n) (.While c body [] pos) := (ps_while hp hc hb).imp fun D σ H ⟨F0, ρ, R, o⟩ => by
  refine ⟨fun m σ2 H2 => ∃ ρ2, Rl X.K F0 ρ2 σ2 H2 ∧ OutS X W F0 ρ2 σ2 H2 D (mwhile p g m ρ2), ⟨n, ρ, R, o⟩, ?_⟩
  rintro m σ2 H2 ⟨ρ2, R2, o2⟩
  cases m with
  | zero => exact o2.elim
  | succ m =>
    refine sqT R2 o2 fun b ρ3 H3 R3 S3 o3 => ?_
    cases b with
    | false => exact iteF (o3 σ2 H3 R3 (Stp.refl _ _ _))
    | true =>
      refine iteT ⟨fun σ' H' => ∃ ρ', Rl X.K F0 ρ' σ' H' ∧ OutS X W F0 ρ' σ' H' D (mwhile p g m ρ'), fun σ' H' ⟨ρ', a, b⟩ => ⟨m, Nat.lt_succ_self _, ρ', a, b⟩, F0, ρ3, R3, ?_⟩
      simp only [if_true] at o3
      cases e5 : g ρ3 with
      | bad => rw [e5] at o3; exact o3.elim
      | exc x ρ' => rw [e5] at o3; exact o3
      | ok fl ρ5 =>
        rw [e5] at o3
        cases fl with
        | nx => exact fun σ5 H5 R5 S5 => ⟨ρ5, R5, OutS.step S5 o3⟩
        | ct => exact fun σ5 H5 R5 S5 => ⟨ρ5, R5, OutS.step S5 o3⟩
        | bk => exact fun σ5 H5 R5 S5 => o3 σ5 H5 R5 S5
        | rt x => exact o3
        | rf x => exact o3
end
end Z

namespace Z
open PySem L2

def W0 : WX := fun _ _ _ _ => False
/-! ### comprehensions -/
def clr (ρ : En) : List Nat → En
  | [] => ρ
  | v :: vs => (clr ρ vs).set v none
def rst (ρ0 ρ : En) : List Nat → En
  | [] => ρ
  | v :: vs => (rst ρ0 ρ vs).set v (ρ0[v]?.getD none)
def free1 (ρ : En) (v : Nat) : Bool := match ρ[v]? with
  | some (some (.own _ _)) => false
  | some _ => true
  | none => false
def cloop (t : D → M Unit) (p : M Bool) (g : M D) (vs : List Nat) : List D → List D → M (List D)
  | [], acc => mpure acc
  | x :: r, acc => fun ρ => match t x ρ with
    | .ok _ ρ1 => match p ρ1 with
      | .ok true ρ2 => match g ρ2 with
        | .ok y ρ3 => if acc.length < sizeLine then cloop t p g vs r (acc ++ [y]) (clr ρ3 vs) else .bad
        | _ => .bad
      | .ok false ρ2 => cloop t p g vs r acc (clr ρ2 vs)
      | _ => .bad
    | _ => .bad
def mcomp (vs : List Nat) (items : M (List D)) (t : D → M Unit) (p : M Bool) (g : M D) : M (List D) := mbind items fun ds ρ =>
  if vs.all (free1 ρ) = true then match cloop t p g vs ds [] (clr ρ vs) with
    | .ok acc ρ' => .ok acc (rst ρ ρ' vs)
    | _ => .bad
  else .bad
theorem clr_length (ρ : En) : ∀ vs : List Nat, (clr ρ vs).length = ρ.length
  | [] => rfl
  | v :: vs => by unfold clr; rw [List.length_set, clr_length ρ vs]
theorem rst_length (ρ0 ρ : En) : ∀ vs : List Nat, (rst ρ0 ρ vs).length = ρ.length
  | [] => rfl
  | v :: vs => by unfold rst; rw [List.length_set, rst_length ρ0 ρ vs]
theorem clr_get (ρ : En) : ∀ (vs : List Nat) (i : Nat), (clr ρ vs)[i]? = if i ∈ vs ∧ i < ρ.length then some none else ρ[i]?
  | [], i => by rw [if_neg (by simp)]; rfl
  | v :: vs, i => by
    unfold clr
    rw [List.getElem?_set, clr_length, clr_get ρ vs i]
    by_cases h : v = i
    · subst h
      rw [if_pos rfl]
      by_cases hv : v < ρ.length
      · rw [if_pos hv, if_pos ⟨by simp, hv⟩]
      · rw [if_neg hv, if_neg (fun z => hv z.2), List.getElem?_eq_none (by omega)]
    · rw [if_neg h]
      by_cases hi : i ∈ vs ∧ i < ρ.length
      · rw [if_pos hi, if_pos ⟨List.mem_cons_of_mem _ hi.1, hi.2⟩]
      · rw [if_neg hi, if_neg (fun z => hi ⟨(List.mem_cons.mp z.1).resolve_left (fun e => h e.symm), z.2⟩)]
theorem rst_get (ρ0 ρ : En) : ∀ (vs : List Nat) (i : Nat), (rst ρ0 ρ vs)[i]? = if i ∈ vs ∧ i < ρ.length then some (ρ0[i]?.getD none) else ρ[i]?
  | [], i => by rw [if_neg (by simp)]; rfl
  | v :: vs, i => by
    unfold rst
    rw [List.getElem?_set, rst_length, rst_get ρ0 ρ vs i]
    by_cases h : v = i
    · subst h
      rw [if_pos rfl]
      by_cases hv : v < ρ.length
      · rw [if_pos hv, if_pos ⟨by simp, hv⟩]
      · rw [if_neg hv, if_neg (fun z => hv z.2), List.getElem?_eq_none (by omega)]
    · rw [if_neg h]
      by_cases hi : i ∈ vs ∧ i < ρ.length
      · rw [if_pos hi, if_pos ⟨List.mem_cons_of_mem _ hi.1, hi.2⟩]
      · rw [if_neg hi, if_neg (fun z => hi ⟨(List.mem_cons.mp z.1).resolve_left (fun e => h e.symm), z.2⟩)]
section
variable {K : PySem.W.Frag} {F0 : Addr → Prop} {ρ ρ1 : En} {σ : St} {H H1 : Hp}
/-- own slots of an env that says less -/
theorem Rl.sub {ρ' : En} {σ' : St} (R : Rl K F0 ρ σ H) (hl : ρ'.length = σ'.length) (k : ∀ (i : Nat) (u : SV), ρ'[i]? = some (some u) → ρ[i]? = some (some u) ∧ σ'[i]? = σ[i]?) : Rl K F0 ρ' σ' H ∧ ∀ a, Own ρ' σ' a → Own ρ σ a := by
  have less : ∀ a, Own ρ' σ' a → Own ρ σ a := fun a ⟨j, b, ds, e, s⟩ => by
    obtain ⟨e1, e2⟩ := k j _ e
    exact ⟨j, b, ds, e1, by rw [← e2]; exact s⟩
  have m : ∀ a, Fav F0 ρ' σ' a → Fav F0 ρ σ a ∨ H a = none := fun a z => .inl (z.imp id (less a))
  have m2 : ∀ a o, H a = some o → ¬ Fav F0 ρ σ a → H a = some o := fun _ _ e _ => e
  refine ⟨⟨hl, fun j y e => ?_, fun j b ds e => ?_, fun j k' b c ds es a e1 e2 s1 s2 => ?_, R.alc⟩, less⟩
  · obtain ⟨e1, e2⟩ := k j _ e
    obtain ⟨u, f1, r1⟩ := R.dat j y e1
    exact ⟨u, by rw [e2]; exact f1, r1.mono m m2⟩
  · obtain ⟨e1, e2⟩ := k j _ e
    obtain ⟨a, vs, f1, f2, r1, n⟩ := R.own j b ds e1
    exact ⟨a, vs, by rw [e2]; exact f1, f2, r1.mono m m2, n⟩
  · obtain ⟨e1, g1⟩ := k j _ e1
    obtain ⟨e2, g2⟩ := k k' _ e2
    exact R.inj j k' b c ds es a e1 e2 (by rw [← g1]; exact s1) (by rw [← g2]; exact s2)
theorem clr_some {vs : List Nat} {i : Nat} {u : SV} (h : (clr ρ vs)[i]? = some (some u)) : i ∉ vs ∧ ρ[i]? = some (some u) := by
  rw [clr_get] at h
  split at h
  · cases h
  · rename_i hn
    refine ⟨fun z => hn ⟨z, ?_⟩, h⟩
    exact (List.getElem?_eq_some_iff.mp h).1
theorem wipe_out {σ : St} {vs : List Nat} {i : Nat} (h : i ∉ vs) : (wipe σ vs)[i]? = σ[i]? := by rw [wipe_get, if_neg (fun z => h z.1)]
theorem rst_out {ρ0 ρ : En} {vs : List Nat} {i : Nat} (h : i ∉ vs) : (rst ρ0 ρ vs)[i]? = ρ[i]? := by rw [rst_get, if_neg (fun z => h z.1)]
/-- into the block -/
theorem Rl.clr (R : Rl K F0 ρ σ H) (vs : List Nat) : Rl K F0 (Z.clr ρ vs) (wipe σ vs) H ∧ ∀ a, Own (Z.clr ρ vs) (wipe σ vs) a → Own ρ σ a :=
  R.sub (by rw [clr_length, wipe_length]; exact R.len) fun i u e => by
    obtain ⟨n, e⟩ := clr_some e
    exact ⟨e, wipe_out n⟩
/-- what is not the frame's is written -/
theorem Rl.acc {p : Addr} {o : HO} (R : Rl K (plus F0 p) ρ σ H) : Rl K (plus F0 p) ρ σ (upd H p o) := by
  have m : ∀ a, Fav (plus F0 p) ρ σ a → Fav (plus F0 p) ρ σ a ∨ H a = none := fun a z => .inl z
  have m2 : ∀ a o', H a = some o' → ¬ Fav (plus F0 p) ρ σ a → upd H p o a = some o' := fun a o' e n => by rw [upd_ne fun z => n (.inl (.inr z))]; exact e
  refine ⟨R.len, fun i x e => ?_, fun i b ds e => ?_, R.inj, fun a h => ?_⟩
  · obtain ⟨v, e1, r⟩ := R.dat i x e
    exact ⟨v, e1, r.mono m m2⟩
  · obtain ⟨a, vs, e1, e2, r, n⟩ := R.own i b ds e
    exact ⟨a, vs, e1, by rw [upd_ne fun z => n (.inr z)]; exact e2, r.mono m m2, n⟩
  · by_cases h' : a = p
    · exact ⟨_, by rw [h']; exact upd_same⟩
    · rw [upd_ne h']; exact R.alc a h
/-- out of the block -/
theorem block_end {vs : List Nat} {D : Addr} {ρe : En} {H2 : Hp} (R1 : Rl K F0 ρ1 σ H1) (hD : H1 D = none) (hf : vs.all (free1 ρ1) = true) (R2 : Rl K (plus F0 D) ρe (wipe σ vs) H2)
    (kp : ∀ a o, H1 a = some o → ¬ Own ρ1 σ a → H2 a = some o) (ow : ∀ a, Own ρe (wipe σ vs) a → Own ρ1 σ a ∨ H1 a = none) (tr : ∀ a, H2 a = none → H1 a = none)
    (io : ∀ (i : Nat) (ds : List Z.D), i ∉ vs → ρ1[i]? = some (some (.own true ds)) → ∃ ds', ρe[i]? = some (some (.own true ds'))) (hl : ρe.length = ρ1.length) :
    Rl K (plus F0 D) (rst ρ1 ρe vs) σ H2 ∧ Stp ρ1 σ H1 (rst ρ1 ρe vs) σ H2 := by
  have fr : ∀ (i : Nat), i ∈ vs → ∀ b ds, ρ1[i]? ≠ some (some (.own b ds)) := fun i hi b ds e => by
    have := List.all_eq_true.mp hf i hi
    unfold free1 at this
    rw [e] at this; cases this
  have oq : ∀ a, Own (rst ρ1 ρe vs) σ a → Own ρe (wipe σ vs) a := fun a ⟨j, b, ds, e, s⟩ => by
    by_cases hj : j ∈ vs
    · rw [rst_get] at e
      split at e
      · rename_i hh
        exfalso
        cases e3 : ρ1[j]? with
        | none => rw [e3] at e; cases e
        | some w =>
          rw [e3] at e
          have e : w = some (.own b ds) := Option.some.inj e
          rw [e] at e3
          exact fr j hj b ds e3
      · rename_i hn
        exact absurd ⟨hj, (List.getElem?_eq_some_iff.mp e).1⟩ hn
    · rw [rst_out hj] at e
      exact ⟨j, b, ds, e, by rw [wipe_out hj]; exact s⟩
  have m : ∀ a, Fav (plus F0 D) (rst ρ1 ρe vs) σ a → Fav (plus F0 D) ρe (wipe σ vs) a ∨ H2 a = none := fun a z => .inl (z.imp id (oq a))
  have m2 : ∀ a o', H2 a = some o' → ¬ Fav (plus F0 D) ρe (wipe σ vs) a → H2 a = some o' := fun _ _ e _ => e
  have own2 : ∀ a, Own (rst ρ1 ρe vs) σ a → Own ρ1 σ a ∨ H1 a = none := fun a z => ow a (oq a z)
  have m3 : ∀ a, Fav (plus F0 D) (rst ρ1 ρe vs) σ a → Fav F0 ρ1 σ a ∨ H1 a = none := fun a z => by
    rcases z with (z | z) | z
    · exact .inl (.inl z)
    · rw [z]; exact .inr hD
    · rcases own2 a z with z | z
      · exact .inl (.inr z)
      · exact .inr z
  have m4 : ∀ a o', H1 a = some o' → ¬ Fav F0 ρ1 σ a → H2 a = some o' := fun a o' e n => kp a o' e fun z => n (.inr z)
  refine ⟨⟨by rw [rst_length, hl]; exact R1.len, fun j y e => ?_, fun j b ds e => ?_, fun j k b c ds es a e1 e2 s1 s2 => ?_, R2.alc⟩, ⟨kp, own2, tr, fun i ds e => ?_, by rw [rst_length]; exact hl⟩⟩
  · by_cases hj : j ∈ vs
    · rw [rst_get] at e
      split at e
      · cases e3 : ρ1[j]? with
        | none => rw [e3] at e; cases e
        | some w =>
          rw [e3] at e
          have e : w = some (.d y) := Option.some.inj e
          rw [e] at e3
          obtain ⟨v, f1, r1⟩ := R1.dat j y e3
          exact ⟨v, f1, r1.mono m3 m4⟩
      · rename_i hn
        exact absurd ⟨hj, (List.getElem?_eq_some_iff.mp e).1⟩ hn
    · rw [rst_out hj] at e
      obtain ⟨v, f1, r1⟩ := R2.dat j y e
      exact ⟨v, by rw [← wipe_out (vs := vs) hj]; exact f1, r1.mono m m2⟩
  · have hj : j ∉ vs := fun hj => by
      rw [rst_get] at e
      split at e
      · cases e3 : ρ1[j]? with
        | none => rw [e3] at e; cases e
        | some w =>
          rw [e3] at e
          have e : w = some (.own b ds) := Option.some.inj e
          rw [e] at e3
          exact fr j hj b ds e3
      · rename_i hn
        exact absurd ⟨hj, (List.getElem?_eq_some_iff.mp e).1⟩ hn
    rw [rst_out hj] at e
    obtain ⟨a, us, f1, f2, r1, n⟩ := R2.own j b ds e
    exact ⟨a, us, by rw [← wipe_out (vs := vs) hj]; exact f1, f2, r1.mono m m2, n⟩
  · have nv : ∀ {j : Nat} {b : Bool} {ds : List Z.D}, (rst ρ1 ρe vs)[j]? = some (some (.own b ds)) → j ∉ vs := fun {j b ds} e hj => by
      rw [rst_get] at e
      split at e
      · cases e3 : ρ1[j]? with
        | none => rw [e3] at e; cases e
        | some w =>
          rw [e3] at e
          have e : w = some (.own b ds) := Option.some.inj e
          rw [e] at e3
          exact fr j hj b ds e3
      · rename_i hn
        exact absurd ⟨hj, (List.getElem?_eq_some_iff.mp e).1⟩ hn
    have hj := nv e1
    have hk := nv e2
    rw [rst_out hj] at e1
    rw [rst_out hk] at e2
    exact R2.inj j k b c ds es a e1 e2 (by rw [wipe_out hj]; exact s1) (by rw [wipe_out hk]; exact s2)
  · have hi : i ∉ vs := fun z => fr i z _ _ e
    obtain ⟨ds', e'⟩ := io i ds hi e
    exact ⟨rfl, ds', by rw [rst_out hi]; exact e'⟩
end

section
variable {X : Cx} {W : WX}
theorem spts_nil : PTs X [] (tT X W (mpure true)) := ⟨fun pins s σ H Q I ⟨F0, ρ, R, o⟩ => pts_nil.run pins s σ H Q I (o H R (Stp.refl _ _ _))⟩
theorem spts_one {c : Expr} {p : M Bool} (h : ST X W p c) : PTs X [c] (tT X W p) := pts_one h
theorem wipe_wipe {σ : St} {vs : List Nat} : wipe (wipe σ vs) vs = wipe σ vs := by
  apply List.ext_getElem?
  intro j
  rw [wipe_get, wipe_get, wipe_length]
  split <;> rfl
/-- the reading of a comprehension -/
theorem comp_of {f : M (List D)} {t : D → M Unit} {p : M Bool} {g : M D} {vs : List Nat} : ∀ σ H Q, tF X W (mcomp vs f t p g) σ H Q → tLc (tI X W f) (tG X vs t) (tT X W0 p) (tE X W0 g) vs σ H Q := fun σ H Q ⟨F0, ρ, R, o⟩ => by
  refine ⟨F0, ρ, R, (Out.bind o).imp fun ds ρ1 o1 J H1 R1 S1 it D hD => ?_⟩
  split at o1
  · rename_i hf
    split at o1
    · rename_i res ρe er
      -- the block's run
      have RD : Rl X.K (plus F0 D) ρ1 σ (upd H1 D (.lst [])) := R1.more (Same.new hD _) hD ⟨_, upd_same⟩
      obtain ⟨Rb, ownb⟩ := RD.clr vs
      refine ⟨fun i m H2 => m = ds.length - i ∧ i ≤ ds.length ∧ ∃ ρk acc vacc, Rl X.K (plus F0 D) ρk (wipe σ vs) H2 ∧ H2 D = some (.lst vacc) ∧ Reps X.K (Fav (plus F0 D) ρk (wipe σ vs)) H2 acc vacc ∧
        (∀ a o, H1 a = some o → ¬ Own ρ1 σ a → H2 a = some o) ∧ (∀ a, Own ρk (wipe σ vs) a → Own ρ1 σ a ∨ H1 a = none) ∧ (∀ a, H2 a = none → H1 a = none) ∧
        (∀ (i : Nat) (ds : List Z.D), i ∉ vs → ρ1[i]? = some (some (.own true ds)) → ∃ ds', ρk[i]? = some (some (.own true ds'))) ∧ ρk.length = ρ1.length ∧
        cloop t p g vs (ds.drop i) acc ρk = .ok res ρe, ⟨_, rfl, Nat.zero_le _, clr ρ1 vs, [], [], Rb, upd_same, .nil, fun a o e n => ?_, fun a z => .inl (ownb a z), fun a z => ?_, fun i ds hi e => ⟨ds, ?_⟩, clr_length _ _, er⟩, ?_⟩
      · exact Same.new hD _ a o e
      · exact Same.free (Same.new hD _) z
      · rw [clr_get, if_neg (fun z => hi z.1)]; exact e
      rintro i m H2 ⟨rfl, hi, ρk, acc, vacc, Rk, hDk, rk, kp, ow, tr, io, ln, run⟩
      have keep : ∀ a o, H1 a = some o → ¬ Fav F0 ρ1 σ a → H2 a = some o := fun a o e n => kp a o e fun z => n (.inr z)
      obtain ⟨st, gos⟩ := it H2 keep
      by_cases hlt : i < ds.length
      · have e : ds[i]? = some ds[i] := List.getElem?_eq_getElem hlt
        obtain ⟨go, ys⟩ := gos i _ e
        rw [List.drop_eq_getElem_cons hlt] at run
        refine .inr ⟨go, fun H' => ∃ ρk acc vacc, Rl X.K (plus F0 D) ρk (wipe σ vs) H' ∧ H' D = some (.lst vacc) ∧ Reps X.K (Fav (plus F0 D) ρk (wipe σ vs)) H' acc vacc ∧
          (∀ a o, H1 a = some o → ¬ Own ρ1 σ a → H' a = some o) ∧ (∀ a, Own ρk (wipe σ vs) a → Own ρ1 σ a ∨ H1 a = none) ∧ (∀ a, H' a = none → H1 a = none) ∧
          (∀ (i : Nat) (ds : List Z.D), i ∉ vs → ρ1[i]? = some (some (.own true ds)) → ∃ ds', ρk[i]? = some (some (.own true ds'))) ∧ ρk.length = ρ1.length ∧
          cloop t p g vs (ds.drop (i + 1)) acc ρk = .ok res ρe, fun H' h => ⟨_, by omega, rfl, hlt, h⟩, fun x H3 hy => ?_⟩
        obtain ⟨k3, rep⟩ := ys x H3 hy
        have fav : ∀ a, Fav (plus F0 D) ρk (wipe σ vs) a → Fav F0 ρ1 σ a ∨ H1 a = none := fun a z => by
          rcases z with (z | z) | z
          · exact .inl (.inl z)
          · rw [z]; exact .inr hD
          · exact (ow a z).imp .inr id
        have r := rep (Fav (plus F0 D) ρk (wipe σ vs)) fav (fun a z => Rk.fav_alc a z)
        have R3 := Rk.same k3
        refine ⟨plus F0 D, ρk, _, R3, r, ?_⟩
        unfold cloop at run
        cases e4 : t ds[i] ρk with
        | bad => rw [e4] at run; cases run
        | exc x ρ' => rw [e4] at run; cases run
        | ok u ρ4 =>
          rw [e4] at run
          simp only at run
          refine fun σ4 H4 R4 S4 w4 k4 => ⟨by rw [w4]; exact wipe_wipe, ?_⟩
          cases e5 : p ρ4 with
          | bad => rw [e5] at run; cases run
          | exc x ρ' => rw [e5] at run; cases run
          | ok b ρ5 =>
            rw [e5] at run
            refine ⟨plus F0 D, ρ4, R4, ?_⟩
            rw [e5]
            intro H5 R5 S5
            -- the state behind a turn: the block's slots forgotten again
            have turn : ∀ {ρ6 : En} {H6 : Hp}, Rl X.K (plus F0 D) ρ6 σ4 H6 → Stp ρ4 σ4 H4 ρ6 σ4 H6 →
                Rl X.K (plus F0 D) (clr ρ6 vs) (wipe σ vs) H6 ∧ Stp ρk (wipe σ vs) H2 ρ6 σ4 H6 ∧ (∀ a, Own (clr ρ6 vs) (wipe σ vs) a → Own ρ6 σ4 a) ∧
                (∀ a o, H1 a = some o → ¬ Own ρ1 σ a → H6 a = some o) ∧ (∀ a, Own (clr ρ6 vs) (wipe σ vs) a → Own ρ1 σ a ∨ H1 a = none) ∧ (∀ a, H6 a = none → H1 a = none) ∧
                (∀ (i : Nat) (ds : List Z.D), i ∉ vs → ρ1[i]? = some (some (.own true ds)) → ∃ ds', (clr ρ6 vs)[i]? = some (some (.own true ds'))) ∧ (clr ρ6 vs).length = ρ1.length := fun {ρ6 H6} R6 S6 => by
              have ST : Stp ρk (wipe σ vs) H2 ρ6 σ4 H6 := (Stp.same k3).trans (S4.trans S6)
              obtain ⟨R7, o7⟩ := R6.clr vs
              rw [w4, wipe_wipe] at R7 o7
              refine ⟨R7, ST, o7, fun a o e n => ?_, fun a z => ?_, fun a z => tr a (ST.trk a z), fun i ds hi e => ?_, by rw [clr_length, ST.len]; exact ln⟩
              · exact ST.keep a o (kp a o e n) fun z => (ow a z).elim n fun q => by rw [e] at q; cases q
              · rcases ST.own a (o7 a z) with z | z
                · exact ow a z
                · exact .inr (tr a z)
              · obtain ⟨ds', e'⟩ := io i ds hi e
                obtain ⟨_, ds2, e2⟩ := ST.io i ds' e'
                exact ⟨ds2, by rw [clr_get, if_neg (fun z => hi z.1)]; exact e2⟩
            have notD : ¬ Own ρk (wipe σ vs) D := fun ⟨j, b, es, e, s⟩ => by
              obtain ⟨a, _, s', _, _, n⟩ := Rk.own j b es e
              rw [s] at s'; cases s'
              exact n (.inr rfl)
            cases b with
            | false =>
              rw [if_neg (by decide)]
              obtain ⟨R7, ST, o7, a1, a2, a3, a4, a5⟩ := turn R5 S5
              have f7 : ∀ a, Fav (plus F0 D) (clr ρ5 vs) (wipe σ vs) a → Fav (plus F0 D) ρ5 σ4 a ∨ H5 a = none := fun a z => .inl (z.imp id (o7 a))
              exact ⟨clr ρ5 vs, acc, vacc, R7, ST.keep _ _ hDk notD, (ST.reps rk).mono f7 (fun _ _ e _ => e), a1, a2, a3, a4, a5, run⟩
            | true =>
              rw [if_pos rfl]
              simp only at run
              cases e6 : g ρ5 with
              | bad => rw [e6] at run; cases run
              | exc x ρ' => rw [e6] at run; cases run
              | ok y ρ6 =>
                rw [e6] at run
                simp only at run
                refine ⟨plus F0 D, ρ5, R5, ?_⟩
                rw [e6]
                intro v H6 R6 S6 ry
                obtain ⟨R7, ST, o7, a1, a2, a3, a4, a5⟩ := turn R6 (S5.trans S6)
                have hD6 := ST.keep _ _ hDk notD
                by_cases hz : acc.length < sizeLine
                · rw [if_pos hz] at run
                  have f7 : ∀ a, Fav (plus F0 D) (clr ρ6 vs) (wipe σ vs) a → Fav (plus F0 D) ρ6 σ4 a ∨ H6 a = none := fun a z => .inl (z.imp id (o7 a))
                  have rr := (ST.reps rk).append (.cons ry .nil)
                  have k8 : ∀ a o', H6 a = some o' → ¬ Fav (plus F0 D) ρ6 σ4 a → upd H6 D (.lst (vacc ++ [v])) a = some o' := fun a o' e n => by rw [upd_ne fun z => n (.inl (.inr z))]; exact e
                  refine ⟨vacc, hD6, by rw [← rk.length]; exact hz, clr ρ6 vs, acc ++ [y], vacc ++ [v], R7.acc, upd_same, rr.mono f7 k8, fun a o e n => ?_, a2, fun a z => ?_, a4, a5, run⟩
                  · have hne : a ≠ D := fun z => by rw [z, hD] at e; cases e
                    rw [upd_ne hne]; exact a1 a o e n
                  · by_cases hne : a = D
                    · rw [hne]; exact hD
                    · rw [upd_ne hne] at z; exact a3 a z
                · rw [if_neg hz] at run; cases run
      · have e : i = ds.length := by omega
        subst e
        rw [List.drop_length] at run
        cases run
        obtain ⟨R8, S8⟩ := block_end R1 hD hf Rk kp ow tr io ln
        have f8 : ∀ a, Fav (plus F0 D) (rst ρ1 ρe vs) σ a → Fav (plus F0 D) ρe (wipe σ vs) a ∨ H2 a = none := fun a z => by
          rcases z with z | ⟨j, b, es, e, s⟩
          · exact .inl (.inl z)
          · refine .inl (.inr ?_)
            by_cases hj : j ∈ vs
            · exfalso
              rw [rst_get] at e
              split at e
              · cases e3 : ρ1[j]? with
                | none => rw [e3] at e; cases e
                | some w =>
                  rw [e3] at e
                  have e : w = some (.own b es) := Option.some.inj e
                  have := List.all_eq_true.mp hf j hj
                  unfold free1 at this
                  rw [e3, e] at this; cases this
              · rename_i hn
                exact absurd ⟨hj, (List.getElem?_eq_some_iff.mp e).1⟩ hn
            · rw [rst_out hj] at e
              exact ⟨j, b, es, e, by rw [wipe_out hj]; exact s⟩
        exact .inl ⟨st, o1 D vacc H2 R8 (S1.trans S8) (S1.trk D hD) hDk (rk.mono f8 fun _ _ e _ => e)⟩
    · exact o1.elim
  · exact o1.elim
abbrev jsOf (own : List (Str × Nat)) : List Nat := own.map (·.2)
theorem sf_comp {elt tg iter : Expr} {ifs : List Expr} {scope : Scope} {own : List (Str × Nat)} {pos : Pos} {f : M (List D)} {t : D → M Unit} {p : M Bool} {g : M D} (hc : X.calm = true) (hN : X.N.Nodup) (hi : SI X W f tg iter) (ok : BlkOk X.N X.env.scope scope own)
    (hg : ∀ (s : Shared) (H : Hp) (C : Addr) (cl : List (Str × Addr)) (fp : List Addr), SG (X.blk s H scope (compEnvC scope cl C X.env) fp) (own.map (·.2)) t tg) (ht : ∀ (s : Shared) (H : Hp) (C : Addr) (cl : List (Str × Addr)) (fp : List Addr), PTs (X.blk s H scope (compEnvC scope cl C X.env) fp) ifs (tT (X.blk s H scope (compEnvC scope cl C X.env) fp) W0 p))
    (he : ∀ (s : Shared) (H : Hp) (C : Addr) (cl : List (Str × Addr)) (fp : List Addr), SE (X.blk s H scope (compEnvC scope cl C X.env) fp) W0 g elt) (hs : ∀ x, foldedSetIterable iter X.env x = pure x := by intro _; rfl) :
    SF X W (mcomp (own.map (·.2)) f t p g) (.ListComp elt [⟨tg, iter, ifs, 0⟩] scope pos) :=
  (pe_lc (g := tG X (jsOf own) t) (tt := tT X W0 p) (te := tE X W0 g) hc hN hi ok hg ht he hs).imp comp_of
theorem tE_tF {X : Cx} {W : WX} {σ : St} {H : Hp} {Q : VK} {f : M (List D)} (h : tE X W (mbind f fun ds => mpure (.lst ds)) σ H Q) : tF X W f σ H Q := by
  obtain ⟨F0, ρ, R, o⟩ := h
  refine ⟨F0, ρ, R, (Out.bind o).imp fun ds ρ1 o1 p vs H1 R1 S1 hp hv r1 => ?_⟩
  have np : ¬ Own ρ1 σ p := fun ⟨i, b, es, e, s⟩ => by
    obtain ⟨a, ws, e1, _, _, n⟩ := R1.own i b es e
    rw [s] at e1; cases e1
    exact n (.inr rfl)
  have np0 : ¬ F0 p := fun z => by
    obtain ⟨o, e⟩ := R.alc p z
    rw [hp] at e; cases e
  have less : ∀ a, Fav F0 ρ1 σ a → Fav (plus F0 p) ρ1 σ a ∨ H1 a = none := fun a z => .inl (z.imp .inl id)
  exact o1 _ H1 (R1.less fun a z => .inl z) S1 (.lst hv (fun z => z.elim np0 np) (r1.mono less fun _ _ e _ => e))
/-- y = [..] on one line, y a local: as data, or as a list of one's own -/
theorem ss_setLc {i : Nat} {y : Str} {py : Pos} {elt tg iter : Expr} {ifs : List Expr} {scope : Scope} {own : List (Str × Nat)} {pos spos : Pos} {f : M (List D)} {t : D → M Unit} {p : M Bool} {g : M D} (hc : X.calm = true) (hN : X.N.Nodup) (hy : X.N[i]? = some y) (hyl : X.env.scope.names.lookup y = some .local)
    (hsw : swapsWith (.ListComp elt [⟨tg, iter, ifs, 0⟩] scope pos) (some (.Name y py)) spos.line X.env = pure true) (hi : SI X W f tg iter) (ok : BlkOk X.N X.env.scope scope own)
    (hg : ∀ (s : Shared) (H : Hp) (C : Addr) (cl : List (Str × Addr)) (fp : List Addr), SG (X.blk s H scope (compEnvC scope cl C X.env) fp) (own.map (·.2)) t tg) (ht : ∀ (s : Shared) (H : Hp) (C : Addr) (cl : List (Str × Addr)) (fp : List Addr), PTs (X.blk s H scope (compEnvC scope cl C X.env) fp) ifs (tT (X.blk s H scope (compEnvC scope cl C X.env) fp) W0 p))
    (he : ∀ (s : Shared) (H : Hp) (C : Addr) (cl : List (Str × Addr)) (fp : List Addr), SE (X.blk s H scope (compEnvC scope cl C X.env) fp) W0 g elt) (hs : ∀ x, foldedSetIterable iter X.env x = pure x := by intro _; rfl) :
    SS X W (msetF i (mcomp (own.map (·.2)) f t p g)) (.Assign [.Name y py] (.ListComp elt [⟨tg, iter, ifs, 0⟩] scope pos) spos) :=
  (ps_setLc (g := tG X (jsOf own) t) (tt := tT X W0 p) (te := tE X W0 g) hc hN hy hyl hsw hi ok hg ht he hs).imp fun D σ H ⟨F0, ρ, R, o⟩ => comp_of σ H _ (setF_end R o)
theorem ss_setLcD {i : Nat} {y : Str} {py : Pos} {elt tg iter : Expr} {ifs : List Expr} {scope : Scope} {own : List (Str × Nat)} {pos spos : Pos} {f : M (List D)} {t : D → M Unit} {p : M Bool} {g : M D} (hc : X.calm = true) (hN : X.N.Nodup) (hy : X.N[i]? = some y) (hyl : X.env.scope.names.lookup y = some .local)
    (hsw : swapsWith (.ListComp elt [⟨tg, iter, ifs, 0⟩] scope pos) (some (.Name y py)) spos.line X.env = pure true) (hi : SI X W f tg iter) (ok : BlkOk X.N X.env.scope scope own)
    (hg : ∀ (s : Shared) (H : Hp) (C : Addr) (cl : List (Str × Addr)) (fp : List Addr), SG (X.blk s H scope (compEnvC scope cl C X.env) fp) (own.map (·.2)) t tg) (ht : ∀ (s : Shared) (H : Hp) (C : Addr) (cl : List (Str × Addr)) (fp : List Addr), PTs (X.blk s H scope (compEnvC scope cl C X.env) fp) ifs (tT (X.blk s H scope (compEnvC scope cl C X.env) fp) W0 p))
    (he : ∀ (s : Shared) (H : Hp) (C : Addr) (cl : List (Str × Addr)) (fp : List Addr), SE (X.blk s H scope (compEnvC scope cl C X.env) fp) W0 g elt) (hs : ∀ x, foldedSetIterable iter X.env x = pure x := by intro _; rfl) :
    SS X W (mset i (mbind (mcomp (own.map (·.2)) f t p g) fun ds => mpure (.lst ds))) (.Assign [.Name y py] (.ListComp elt [⟨tg, iter, ifs, 0⟩] scope pos) spos) :=
  (ps_setLc (g := tG X (jsOf own) t) (tt := tT X W0 p) (te := tE X W0 g) hc hN hy hyl hsw hi ok hg ht he hs).imp fun D σ H ⟨F0, ρ, R, o⟩ => comp_of σ H _ (tE_tF (set_end R o))
end
end Z

namespace Z
open PySem L2

/-! ### defs as functions -/
inductive RV where
  | d (x : D) | fresh (ds : List D)
inductive FR where
  | ok (x : RV) (outs : En) | exc (e : Exn) (outs : En) | bad
abbrev Fn := List SV → FR
def runBody (n : Nat) (body : M Flow) : Fn := fun as => match body (as.map some ++ List.replicate (n - as.length) none) with
  | .ok .nx ρ => .ok (.d .non) (ρ.take as.length)
  | .ok (.rt x) ρ => .ok (.d x) (ρ.take as.length)
  | .ok (.rf ds) ρ => .ok (.fresh ds) (ρ.take as.length)
  | .ok _ _ => .bad
  | .exc e ρ => .exc e (ρ.take as.length)
  | .bad => .bad
def Pas (as : List SV) (vs : List V) : Addr → Prop := Own (as.map some) (vs.map some)
structure After (K : PySem.W.Frag) (F : Addr → Prop) (as : List SV) (vs : List V) (H : Hp) (outs : En) (H' : Hp) : Prop where
  keep : ∀ a o, H a = some o → ¬ Pas as vs a → H' a = some o
  trk : ∀ a, H' a = none → H a = none
  io : ∀ (i : Nat) (ds : List D), as[i]? = some (.own true ds) → ∃ (ds' : List D) (a : Addr) (us : List V), outs[i]? = some (some (.own true ds')) ∧ vs[i]? = some (.ref a) ∧ H' a = some (.lst us) ∧ Reps K F H' ds' us
def FavC (F0 : Addr → Prop) (as : List SV) (vs : List V) : Addr → Prop := fun a => F0 a ∨ Pas as vs a
def OutC (K : PySem.W.Frag) (mg : Str → Option Value) (F0 : Addr → Prop) (as : List SV) (vs : List V) (H : Hp) (Q : VK) (E : XK) : FR → Prop
  | .ok (.d x) outs => ∀ v H', After K (FavC F0 as vs) as vs H outs H' → Rep K (FavC F0 as vs) H' x v → Q v H'
  | .ok (.fresh ds) outs => ∀ p us H', After K (FavC (plus F0 p) as vs) as vs H outs H' → H p = none → H' p = some (.lst us) → Reps K (FavC (plus F0 p) as vs) H' ds us → Q (.ref p) H'
  | .exc e outs => ∀ cv d H', After K (FavC F0 as vs) as vs H outs H' → ExRep mg e cv d H' → E cv d H'
  | .bad => False
def spM (K : PySem.W.Frag) (mg : Str → Option Value) (np : Nat) (m : Fn) : Sp := fun vs H Q E => vs.length = np ∧ ∃ as F0, Rl K F0 (as.map some) (vs.map some) H ∧ (∀ (i : Nat) (b : Bool) (ds : List D), as[i]? = some (.own b ds) → b = true) ∧ OutC K mg F0 as vs H Q E (m as)

section
variable {P : Program} {w : World} {K : PySem.W.Frag} {mg : Str → Option Value} {base : Heap}
theorem pad_get {as : List SV} {n : Nat} {i : Nat} {u : SV} (h : (as.map some ++ List.replicate n (none : Option SV))[i]? = some (some u)) : as[i]? = some u := by
  by_cases hi : i < as.length
  · rw [List.getElem?_append_left (by simpa using hi), List.getElem?_map] at h
    cases e : as[i]? with
    | none => rw [e] at h; cases h
    | some a => rw [e] at h; cases h; rfl
  · rw [List.getElem?_append_right (by simpa using hi), List.getElem?_replicate] at h
    split at h <;> cases h
theorem somes_get {α : Type} {as : List α} {i : Nat} {u : α} : (as.map some)[i]? = some (some u) ↔ as[i]? = some u := by
  rw [List.getElem?_map]
  cases as[i]? with
  | none => simp
  | some a => simp
/-- THE RULE of a def: what its body runs to is what a call of it gives -/
theorem fn_ok {x qual : Str} {st : Stmt} {f : Addr} {fd : FuncData} {N ps : List Str} {k : Nat} {body : M Flow} (F : Fun K x qual st f fd) (S : FnScope N ps (defScope st))
    (hb : ∀ (cdv : Value) (A : Around) (outer : List PySem.Env) (s : Shared) (H : Hp) (E : XK), Room k (A.deeper (PyProof.Rows.envOfC qual (defScope st) s.heap.objs.size f cdv)) → SSs (cxOf (L2.CX P w) P w K mg base N qual (defScope st) f cdv A outer s H E) (fun cls d _ H => E cls d H) body (defBody st)) :
    FnOk P w K mg base (L2.CX P w) (k + 1) f fd ps (spM K mg ps.length (runBody N.length body)) := by
  refine F.okX S (fun vs H Q E h => h.1) (fun cdv A outer s H vs Q E hr h => ?_)
  obtain ⟨hl, as, F0, R, hio, o⟩ := h
  refine ⟨_, hb cdv A outer s H E hr, ?_⟩
  have hlen : as.length = vs.length := by have := R.len; simpa using this
  have est : start N vs = vs.map some ++ List.replicate (N.length - vs.length) none := rfl
  rw [est]
  obtain ⟨R0, less⟩ := R.sub (ρ' := as.map some ++ List.replicate (N.length - as.length) none) (σ' := vs.map some ++ List.replicate (N.length - vs.length) none) (by simp [hlen]) fun i u e => by
    have e1 := pad_get e
    refine ⟨somes_get.mpr e1, ?_⟩
    have hi : i < vs.length := by rw [← hlen]; exact (List.getElem?_eq_some_iff.mp e1).1
    rw [List.getElem?_append_left (by simpa using hi)]
  have pasD : ∀ a, Pas as vs a → Own (as.map some ++ List.replicate (N.length - as.length) none) (vs.map some ++ List.replicate (N.length - vs.length) none) a := fun a ⟨i, b, ds, e, s⟩ => by
    have hi : i < as.length := by rw [somes_get] at e; exact (List.getElem?_eq_some_iff.mp e).1
    exact ⟨i, b, ds, by rw [List.getElem?_append_left (by simpa using hi)]; exact e, by rw [List.getElem?_append_left (by simpa [← hlen] using hi)]; exact s⟩
  -- what the body's end says to the caller
  have aft : ∀ {G : Addr → Prop} {ρ' : En} {σ' : St} {H' : Hp}, Rl K G ρ' σ' H' → Stp (as.map some ++ List.replicate (N.length - as.length) none) (vs.map some ++ List.replicate (N.length - vs.length) none) H ρ' σ' H' →
      After K (FavC G as vs) as vs H (ρ'.take as.length) H' ∧ ∀ a, FavC G as vs a → Fav G ρ' σ' a := fun {G ρ' σ' H'} R' S' => by
    have ioS : ∀ (i : Nat) (ds : List D), as[i]? = some (.own true ds) → σ'[i]? = (vs.map some)[i]? ∧ ∃ ds', ρ'[i]? = some (some (.own true ds')) := fun i ds e => by
      have hi : i < as.length := (List.getElem?_eq_some_iff.mp e).1
      obtain ⟨e1, e2⟩ := S'.io i ds (by rw [List.getElem?_append_left (by simpa using hi)]; exact somes_get.mpr e)
      refine ⟨?_, e2⟩
      rw [e1, List.getElem?_append_left (by simpa [← hlen] using hi)]
    have sub : ∀ a, FavC G as vs a → Fav G ρ' σ' a := fun a z => by
      rcases z with z | ⟨i, b, ds, e, s⟩
      · exact .inl z
      · rw [somes_get] at e
        have eb := hio i b ds e
        subst eb
        obtain ⟨e1, ds', e2⟩ := ioS i ds e
        exact .inr ⟨i, true, ds', e2, by rw [e1]; exact s⟩
    refine ⟨⟨fun a o e n => S'.keep a o e fun z => n (less a z), S'.trk, fun i ds e => ?_⟩, sub⟩
    obtain ⟨e1, ds', e2⟩ := ioS i ds e
    obtain ⟨a, us, f1, f2, r, _⟩ := R'.own i true ds' e2
    have hi : i < as.length := (List.getElem?_eq_some_iff.mp e).1
    refine ⟨ds', a, us, by rw [List.getElem?_take_of_lt hi]; exact e2, ?_, f2, r.mono (fun a z => .inl (sub a z)) fun _ _ e _ => e⟩
    rw [e1] at f1
    exact somes_get.mp f1
  refine ⟨F0, _, R0, ?_⟩
  unfold runBody at o
  split at o
  · rename_i ρ' er
    rw [er]
    intro σ' H' R' S'
    obtain ⟨a1, a2⟩ := aft R' S'
    exact o _ H' a1 .non
  · rename_i x ρ' er
    rw [er]
    intro v σ' H' R' S' r
    obtain ⟨a1, a2⟩ := aft R' S'
    exact o v H' a1 (r.mono (fun a z => .inl (a2 a z)) fun _ _ e _ => e)
  · rename_i ds ρ' er
    rw [er]
    intro p us σ' H' R' S' hp hv r
    obtain ⟨a1, a2⟩ := aft R' S'
    have hp : H p = none := by
      rcases hp with ⟨i, b, es, e, s⟩ | hp
      · exfalso
        have e1 := pad_get e
        have eb := hio i b es e1
        subst eb
        obtain ⟨f1, ds', f2⟩ := S'.io i es e
        obtain ⟨a, us', g1, _, _, n⟩ := R'.own i true ds' f2
        rw [f1, s] at g1; cases g1
        exact n (.inr rfl)
      · exact hp
    exact o p us H' a1 hp hv (r.mono (fun a z => .inl (a2 a z)) fun _ _ e _ => e)
  · exact o.elim
  · rename_i e ρ' er
    rw [er]
    intro cv d σ' H' R' S' x
    obtain ⟨a1, a2⟩ := aft R' S'
    exact o cv d H' a1 x
  · exact o.elim
end

/-! ### calls -/
/-- an argument: data; a slot's own list, lent; a new list that is dropped behind the call -/
inductive Arg where
  | d (f : M D) | io (j : Nat) | tmp (f : M (List D))
def margs : List Arg → M (List SV)
  | [] => mpure []
  | .d f :: r => mbind f fun x => mbind (margs r) fun xs => mpure (.d x :: xs)
  | .tmp f :: r => mbind f fun ds => mbind (margs r) fun xs => mpure (.own true ds :: xs)
  | .io j :: r => mbind (mown j) fun _ => mbind (margs r) fun xs => mbind (mown j) fun ds => mpure (.own true ds :: xs)
def wback : List Arg → En → En → Option En
  | [], _, ρ => some ρ
  | .d _ :: as, _ :: os, ρ => wback as os ρ
  | .tmp _ :: as, _ :: os, ρ => wback as os ρ
  | .io j :: as, some (.own true ds) :: os, ρ => match ρ[j]? with
    | some (some (.own b _)) => wback as os (ρ.set j (some (.own b ds)))
    | _ => none
  | _, _, _ => none
def ios : List Arg → List Nat
  | [] => []
  | .d _ :: as => ios as
  | .tmp _ :: as => ios as
  | .io j :: as => j :: ios as
def mcall (m : Fn) (args : List Arg) : M D := mbind (margs args) fun svs ρ => match m svs with
  | .ok (.d x) outs => match wback args outs ρ with
    | some ρ' => .ok x ρ'
    | none => .bad
  | .exc e outs => match wback args outs ρ with
    | some ρ' => .exc e ρ'
    | none => .bad
  | _ => .bad
def mcallF (m : Fn) (args : List Arg) : M (List D) := mbind (margs args) fun svs ρ => match m svs with
  | .ok (.fresh ds) outs => match wback args outs ρ with
    | some ρ' => .ok ds ρ'
    | none => .bad
  | .exc e outs => match wback args outs ρ with
    | some ρ' => .exc e ρ'
    | none => .bad
  | _ => .bad
/-- Hs: the heap ahead of the arguments -/
inductive ArgsR (K : PySem.W.Frag) (F0 : Addr → Prop) (ρ : En) (σ : St) (H Hs : Hp) : List Arg → List SV → List V → Prop
  | nil : ArgsR K F0 ρ σ H Hs [] [] []
  | d {f : M D} {x : D} {v : V} {as : List Arg} {svs : List SV} {vs : List V} : Rep K (Fav F0 ρ σ) H x v → ArgsR K F0 ρ σ H Hs as svs vs → ArgsR K F0 ρ σ H Hs (.d f :: as) (.d x :: svs) (v :: vs)
  | io {j : Nat} {b : Bool} {ds : List D} {a : Addr} {as : List Arg} {svs : List SV} {vs : List V} : ρ[j]? = some (some (.own b ds)) → σ[j]? = some (some (.ref a)) → ArgsR K F0 ρ σ H Hs as svs vs → ArgsR K F0 ρ σ H Hs (.io j :: as) (.own true ds :: svs) (.ref a :: vs)
  | tmp {f : M (List D)} {ds : List D} {us : List V} {a : Addr} {as : List Arg} {svs : List SV} {vs : List V} : F0 a → Hs a = none → H a = some (.lst us) → Reps K (Fav F0 ρ σ) H ds us → (∀ (i : Nat) (es : List D), svs[i]? = some (.own true es) → vs[i]? ≠ some (.ref a)) → ArgsR K F0 ρ σ H Hs as svs vs → ArgsR K F0 ρ σ H Hs (.tmp f :: as) (.own true ds :: svs) (.ref a :: vs)
section
variable {K : PySem.W.Frag} {F0 : Addr → Prop} {ρ ρ1 ρ2 : En} {σ : St} {H H1 H' Hs : Hp}
theorem ArgsR.len {args : List Arg} {svs : List SV} {vs : List V} (r : ArgsR K F0 ρ σ H Hs args svs vs) : svs.length = vs.length ∧ args.length = vs.length := by
  induction r with
  | nil => exact ⟨rfl, rfl⟩
  | d _ _ ih => exact ⟨by simp [ih.1], by simp [ih.2]⟩
  | io _ _ _ ih => exact ⟨by simp [ih.1], by simp [ih.2]⟩
  | tmp _ _ _ _ _ _ ih => exact ⟨by simp [ih.1], by simp [ih.2]⟩
theorem ArgsR.weak {Hq : Hp} (k : ∀ a, Hs a = none → Hq a = none) {args : List Arg} {svs : List SV} {vs : List V} (r : ArgsR K F0 ρ σ H Hs args svs vs) : ArgsR K F0 ρ σ H Hq args svs vs := by
  induction r with
  | nil => exact .nil
  | d h _ ih => exact .d h ih
  | io h1 h2 _ ih => exact .io h1 h2 ih
  | tmp h1 h2 h3 h4 h5 _ ih => exact .tmp h1 (k _ h2) h3 h4 h5 ih
theorem ArgsR.at_d {args : List Arg} {svs : List SV} {vs : List V} (r : ArgsR K F0 ρ σ H Hs args svs vs) : ∀ {i : Nat} {x : D}, svs[i]? = some (.d x) → ∃ v, vs[i]? = some v ∧ Rep K (Fav F0 ρ σ) H x v := by
  induction r with
  | nil => intro i x e; simp at e
  | d h _ ih =>
    intro i x e
    cases i with
    | zero => simp at e; subst e; exact ⟨_, rfl, h⟩
    | succ i => simpa using ih (i := i) (by simpa using e)
  | io _ _ _ ih =>
    intro i x e
    cases i with
    | zero => simp at e
    | succ i => simpa using ih (i := i) (by simpa using e)
  | tmp _ _ _ _ _ _ ih =>
    intro i x e
    cases i with
    | zero => simp at e
    | succ i => simpa using ih (i := i) (by simpa using e)
/-- an argument that is lent: a slot's list, or a new one -/
theorem ArgsR.at_io {args : List Arg} {svs : List SV} {vs : List V} (r : ArgsR K F0 ρ σ H Hs args svs vs) : ∀ {i : Nat} {b : Bool} {ds : List D}, svs[i]? = some (.own b ds) → b = true ∧ ∃ a, vs[i]? = some (.ref a) ∧
    ((∃ j c, args[i]? = some (.io j) ∧ ρ[j]? = some (some (.own c ds)) ∧ σ[j]? = some (some (.ref a))) ∨ (F0 a ∧ Hs a = none ∧ (∃ us, H a = some (.lst us) ∧ Reps K (Fav F0 ρ σ) H ds us) ∧ ∃ f, args[i]? = some (.tmp f))) := by
  induction r with
  | nil => intro i b ds e; simp at e
  | d h _ ih =>
    intro i b ds e
    cases i with
    | zero => simp at e
    | succ i => simpa using ih (i := i) (by simpa using e)
  | @io j b' ds' a as svs vs h1 h2 _ ih =>
    intro i b ds e
    cases i with
    | zero =>
      simp at e
      obtain ⟨rfl, rfl⟩ := e
      exact ⟨rfl, a, rfl, .inl ⟨j, b', rfl, h1, h2⟩⟩
    | succ i => simpa using ih (i := i) (by simpa using e)
  | @tmp f ds' us a as svs vs h1 h2 h3 h4 h5 _ ih =>
    intro i b ds e
    cases i with
    | zero =>
      simp at e
      obtain ⟨rfl, rfl⟩ := e
      exact ⟨rfl, a, rfl, .inr ⟨h1, h2, ⟨us, h3, h4⟩, f, rfl⟩⟩
    | succ i => simpa using ih (i := i) (by simpa using e)
theorem ios_mem {j : Nat} : ∀ {as : List Arg} {i : Nat}, as[i]? = some (.io j) → j ∈ ios as := by
  intro as
  induction as with
  | nil => intro i e; simp at e
  | cons a as ih =>
    intro i e
    cases i with
    | zero => simp at e; subst e; simp [ios]
    | succ i =>
      have := ih (i := i) (by simpa using e)
      cases a with
      | d f => exact this
      | tmp f => exact this
      | io j'' => exact List.mem_cons_of_mem _ this
/-- two places of one lent list are one -/
theorem ArgsR.inj (R : Rl K F0 ρ σ H) {args : List Arg} {svs : List SV} {vs : List V} (r : ArgsR K F0 ρ σ H Hs args svs vs) : (ios args).Nodup → ∀ {i k : Nat} {b c : Bool} {ds es : List D} {a : Addr}, svs[i]? = some (.own b ds) → svs[k]? = some (.own c es) → vs[i]? = some (.ref a) → vs[k]? = some (.ref a) → i = k := by
  induction r with
  | nil => intro _ i k b c ds es a e; simp at e
  | d h _ ih =>
    intro nd i k b c ds es a e1 e2 s1 s2
    cases i with
    | zero => simp at e1
    | succ i => cases k with
      | zero => simp at e2
      | succ k => exact congrArg (· + 1) (ih nd (by simpa using e1) (by simpa using e2) (by simpa using s1) (by simpa using s2))
  | @io j b' ds' a' as svs vs h1 h2 r ih =>
    intro nd i k b c ds es a e1 e2 s1 s2
    have nd : (j :: ios as).Nodup := nd
    rw [List.nodup_cons] at nd
    have no : ∀ {k : Nat} {c : Bool} {es : List D}, svs[k]? = some (.own c es) → vs[k]? = some (.ref a') → False := fun {k c es} e s => by
      obtain ⟨_, a2, s2, h⟩ := r.at_io e
      rw [s] at s2; cases s2
      rcases h with ⟨j2, c2, g1, g2, g3⟩ | ⟨g1, _⟩
      · have ej := R.inj j j2 b' c2 ds' es a' h1 g2 h2 g3
        subst ej
        exact nd.1 (ios_mem g1)
      · obtain ⟨a3, _, f1, _, _, n⟩ := R.own j b' ds' h1
        rw [h2] at f1; cases f1
        exact n g1
    cases i with
    | zero => cases k with
      | zero => rfl
      | succ k =>
        have q1 : some (V.ref a') = some (V.ref a) := s1
        cases q1
        exact (no (k := k) (by simpa using e2) (by simpa using s2)).elim
    | succ i => cases k with
      | zero =>
        have q1 : some (V.ref a') = some (V.ref a) := s2
        cases q1
        exact (no (k := i) (by simpa using e1) (by simpa using s1)).elim
      | succ k => exact congrArg (· + 1) (ih nd.2 (by simpa using e1) (by simpa using e2) (by simpa using s1) (by simpa using s2))
  | @tmp f ds' us a' as svs vs h1 h2 h3 h4 h5 r ih =>
    intro nd i k b c ds es a e1 e2 s1 s2
    have no : ∀ {k : Nat} {c : Bool} {es : List D}, svs[k]? = some (.own c es) → vs[k]? = some (.ref a') → False := fun {k c es} e s => by
      have ec := (r.at_io e).1
      subst ec
      exact h5 k es e s
    cases i with
    | zero => cases k with
      | zero => rfl
      | succ k =>
        have q1 : some (V.ref a') = some (V.ref a) := s1
        cases q1
        exact (no (k := k) (by simpa using e2) (by simpa using s2)).elim
    | succ i => cases k with
      | zero =>
        have q1 : some (V.ref a') = some (V.ref a) := s2
        cases q1
        exact (no (k := i) (by simpa using e1) (by simpa using s1)).elim
      | succ k => exact congrArg (· + 1) (ih nd (by simpa using e1) (by simpa using e2) (by simpa using s1) (by simpa using s2))
/-- what the callee asks -/
theorem call_in {args : List Arg} {svs : List SV} {vs : List V} (R : Rl K F0 ρ σ H) (r : ArgsR K F0 ρ σ H Hs args svs vs) (nd : (ios args).Nodup) :
    (∀ a, Pas svs vs a → Own ρ σ a ∨ (F0 a ∧ Hs a = none)) ∧ Rl K (fun a => Fav F0 ρ σ a ∧ ¬ Pas svs vs a) (svs.map some) (vs.map some) H ∧ ∀ a, FavC (fun a => Fav F0 ρ σ a ∧ ¬ Pas svs vs a) svs vs a ↔ Fav F0 ρ σ a := by
  have pas : ∀ a, Pas svs vs a → Own ρ σ a ∨ (F0 a ∧ Hs a = none) := fun a ⟨i, b, ds, e, s⟩ => by
    have e := somes_get.mp e
    have s := somes_get.mp s
    obtain ⟨_, a', h2, h⟩ := r.at_io e
    rw [s] at h2; cases h2
    rcases h with ⟨j, c, _, h1, h3⟩ | ⟨h1, h2, _⟩
    · exact .inl ⟨j, c, ds, h1, h3⟩
    · exact .inr ⟨h1, h2⟩
  have pasF : ∀ a, Pas svs vs a → Fav F0 ρ σ a := fun a z => (pas a z).elim .inr fun z => .inl z.1
  have iff : ∀ a, FavC (fun a => Fav F0 ρ σ a ∧ ¬ Pas svs vs a) svs vs a ↔ Fav F0 ρ σ a := fun a =>
    ⟨fun z => z.elim (fun z => z.1) fun z => pasF a z, fun z => (Classical.em (Pas svs vs a)).elim .inr fun n => .inl ⟨z, n⟩⟩
  have m : ∀ a, Fav (fun a => Fav F0 ρ σ a ∧ ¬ Pas svs vs a) (svs.map some) (vs.map some) a → Fav F0 ρ σ a ∨ H a = none := fun a z => .inl ((iff a).mp z)
  have m2 : ∀ a o, H a = some o → ¬ Fav F0 ρ σ a → H a = some o := fun _ _ e _ => e
  refine ⟨pas, ⟨by simp [r.len.1], fun i x e => ?_, fun i b ds e => ?_, fun i k b c ds es a e1 e2 s1 s2 => ?_, fun a z => R.fav_alc a z.1⟩, iff⟩
  · have e := somes_get.mp e
    obtain ⟨v, e1, h⟩ := r.at_d e
    exact ⟨v, somes_get.mpr e1, h.mono m m2⟩
  · have e := somes_get.mp e
    obtain ⟨_, a, h2, h⟩ := r.at_io e
    rcases h with ⟨j, c, _, h1, h3⟩ | ⟨_, _, ⟨us, f2, h⟩, _⟩
    · obtain ⟨a', us, f1, f2, h, n⟩ := R.own j c ds h1
      rw [h3] at f1; cases f1
      exact ⟨a, us, somes_get.mpr h2, f2, h.mono m m2, fun z => z.2 ⟨i, b, ds, somes_get.mpr e, somes_get.mpr h2⟩⟩
    · exact ⟨a, us, somes_get.mpr h2, f2, h.mono m m2, fun z => z.2 ⟨i, b, ds, somes_get.mpr e, somes_get.mpr h2⟩⟩
  · exact r.inj R nd (somes_get.mp e1) (somes_get.mp e2) (somes_get.mp s1) (somes_get.mp s2)
/-- the env behind the call -/
theorem wback_at {F : Addr → Prop} : ∀ {args : List Arg} {svs : List SV} {vs : List V} {outs ρ ρ2 : En}, ArgsR K F0 ρ1 σ H Hs args svs vs → (ios args).Nodup → wback args outs ρ = some ρ2 →
    (∀ (i : Nat) (ds : List D), svs[i]? = some (.own true ds) → ∃ (ds' : List D) (a : Addr) (us : List V), outs[i]? = some (some (.own true ds')) ∧ vs[i]? = some (.ref a) ∧ H' a = some (.lst us) ∧ Reps K F H' ds' us) →
    ρ2.length = ρ.length ∧ ∀ j u, ρ2[j]? = some u → (j ∉ ios args ∧ ρ[j]? = some u) ∨ (j ∈ ios args ∧ ∃ b ds ds' a us, u = some (.own b ds') ∧ ρ[j]? = some (some (.own b ds)) ∧ σ[j]? = some (some (.ref a)) ∧ H' a = some (.lst us) ∧ Reps K F H' ds' us) := by
  intro args svs vs outs ρ ρ2 r
  induction r generalizing outs ρ ρ2 with
  | nil =>
    intro _ e _
    cases e
    exact ⟨rfl, fun j u h => .inl ⟨by simp [ios], h⟩⟩
  | @d f x v as svs vs h _ ih =>
    intro nd e io
    cases outs with
    | nil => cases e
    | cons o os =>
      exact ih (outs := os) nd e fun i ds e => by
        obtain ⟨ds', a, us, h1, h2, h3⟩ := io (i + 1) ds (by simpa using e)
        exact ⟨ds', a, us, by simpa using h1, by simpa using h2, h3⟩
  | @tmp f ds' us a as svs vs _ _ _ _ _ _ ih =>
    intro nd e io
    cases outs with
    | nil => cases e
    | cons o os =>
      exact ih (outs := os) nd e fun i ds e => by
        obtain ⟨ds', a, us, h1, h2, h3⟩ := io (i + 1) ds (by simpa using e)
        exact ⟨ds', a, us, by simpa using h1, by simpa using h2, h3⟩
  | @io j b ds a as svs vs h1 h2 _ ih =>
    intro nd e io
    have nd : (j :: ios as).Nodup := nd
    rw [List.nodup_cons] at nd
    obtain ⟨ds', a', us, g1, g2, g3, g4⟩ := io 0 ds rfl
    have g2 : some (V.ref a) = some (V.ref a') := g2
    cases g2
    cases outs with
    | nil => cases g1
    | cons o os =>
      have g1 : some o = some (some (.own true ds')) := g1
      cases g1
      unfold wback at e
      split at e
      · rename_i b2 es ej
        obtain ⟨l1, l2⟩ := ih (outs := os) nd.2 e fun i ds e => by
          obtain ⟨ds', a, us, h1, h2, h3⟩ := io (i + 1) ds (by simpa using e)
          exact ⟨ds', a, us, by simpa using h1, by simpa using h2, h3⟩
        refine ⟨by rw [l1, List.length_set], fun j2 u hu => ?_⟩
        have hj : j < ρ.length := (List.getElem?_eq_some_iff.mp ej).1
        rcases l2 j2 u hu with ⟨k1, k2⟩ | ⟨k1, b3, es3, es', a3, us3, k2, k3, k4⟩
        · by_cases hj2 : j2 = j
          · subst hj2
            rw [List.getElem?_set_self hj] at k2
            cases k2
            exact .inr ⟨by simp [ios], b2, es, ds', a, us, rfl, ej, h2, g3, g4⟩
          · rw [List.getElem?_set_ne (Ne.symm hj2)] at k2
            exact .inl ⟨by simp [ios, hj2, k1], k2⟩
        · have hj2 : j2 ≠ j := fun z => by subst z; exact nd.1 k1
          rw [List.getElem?_set_ne (Ne.symm hj2)] at k3
          exact .inr ⟨by simp [ios, k1], b3, es3, es', a3, us3, k2, k3, k4⟩
      · cases e
/-- behind the call: from the heap ahead of the arguments -/
theorem call_out {G : Addr → Prop} {ρs : En} {args : List Arg} {svs : List SV} {vs : List V} {outs : En} (R : Rl K F0 ρ σ H) (S : Stp ρs σ Hs ρ σ H) (r : ArgsR K F0 ρ σ H Hs args svs vs) (nd : (ios args).Nodup) (wb : wback args outs ρ = some ρ2)
    (hG2 : ∀ a, G a → F0 a ∨ H a = none) (hG3 : ∀ a, G a → ∃ o, H' a = some o)
    {F : Addr → Prop} (hF : ∀ a, Fav G ρ σ a → F a) (A : After K F svs vs H outs H') : Rl K G ρ2 σ H' ∧ Stp ρs σ Hs ρ2 σ H' ∧ ∀ a, Own ρ2 σ a → Own ρ σ a := by
  obtain ⟨pas, _, _⟩ := call_in R r nd
  obtain ⟨ln, sl⟩ := wback_at r nd wb A.io
  have back : ∀ (j : Nat) (b : Bool) (ds : List D), ρ2[j]? = some (some (.own b ds)) → ∃ es, ρ[j]? = some (some (.own b es)) := fun j b ds e => by
    rcases sl j _ e with ⟨_, e⟩ | ⟨_, b2, es, es', a, us, e1, e2, _⟩
    · exact ⟨ds, e⟩
    · cases e1; exact ⟨es, e2⟩
  have ow : ∀ a, Own ρ2 σ a → Own ρ σ a := fun a ⟨j, b, ds, e, s⟩ => by
    obtain ⟨es, e'⟩ := back j b ds e
    exact ⟨j, b, es, e', s⟩
  have pasF : ∀ a, Pas svs vs a → Fav F0 ρ σ a := fun a z => (pas a z).elim .inr fun z => .inl z.1
  have mem : ∀ (j : Nat) (b : Bool) (ds : List D) (a : Addr), ρ[j]? = some (some (.own b ds)) → σ[j]? = some (some (.ref a)) → Pas svs vs a → j ∈ ios args := fun j b ds a e s ⟨i, c, es, e2, s2⟩ => by
    have e2 := somes_get.mp e2
    have s2 := somes_get.mp s2
    obtain ⟨_, a2, h2, h⟩ := r.at_io e2
    rw [s2] at h2; cases h2
    rcases h with ⟨j2, c2, g1, h1, h3⟩ | ⟨h1, _⟩
    · have ej := R.inj j j2 b c2 ds es a e h1 s h3
      subst ej
      exact ios_mem g1
    · obtain ⟨a3, _, f1, _, _, n⟩ := R.own j b ds e
      rw [s] at f1; cases f1
      exact (n h1).elim
  have m : ∀ a, Fav G ρ2 σ a → Fav F0 ρ σ a ∨ H a = none := fun a z => by
    rcases z with z | z
    · exact (hG2 a z).imp .inl id
    · exact .inl (.inr (ow a z))
  have kp : ∀ a o, H a = some o → ¬ Fav F0 ρ σ a → H' a = some o := fun a o e n => A.keep a o e fun z => n (pasF a z)
  have f2 : ∀ a, Fav G ρ2 σ a → F a ∨ H' a = none := fun a z => .inl (hF a (z.imp id (ow a)))
  refine ⟨⟨by rw [ln]; exact R.len, fun j x e => ?_, fun j b ds e => ?_, fun j k b c ds es a e1 e2 s1 s2 => ?_, hG3⟩, ⟨fun a o e n => ?_, fun a z => S.own a (ow a z), fun a z => S.trk a (A.trk a z), fun j ds e => ⟨rfl, ?_⟩, by rw [ln]; exact S.len⟩, ow⟩
  · rcases sl j _ e with ⟨_, e⟩ | ⟨_, b2, es, es', a, us, e1, _⟩
    · obtain ⟨v, e1, h⟩ := R.dat j x e
      exact ⟨v, e1, h.mono m kp⟩
    · cases e1
  · rcases sl j _ e with ⟨nj, e⟩ | ⟨_, b2, es, es', a, us, e1, e2, e3, e4, h⟩
    · obtain ⟨a, us, e1, e2, h, n⟩ := R.own j b ds e
      refine ⟨a, us, e1, A.keep a _ e2 fun z => nj (mem j b ds a e e1 z), h.mono m kp, fun z => (hG2 a z).elim n fun q => ?_⟩
      rw [q] at e2; cases e2
    · cases e1
      obtain ⟨a', us', f1, f2', _, n⟩ := R.own j b es e2
      rw [e3] at f1; cases f1
      refine ⟨a, us, e3, e4, h.mono f2 fun _ _ e _ => e, fun z => (hG2 a z).elim n fun q => ?_⟩
      rw [q] at f2'; cases f2'
  · obtain ⟨_, g1⟩ := back j b ds e1
    obtain ⟨_, g2⟩ := back k c es e2
    exact R.inj j k b c _ _ a g1 g2 s1 s2
  · refine A.keep a o (S.keep a o e n) fun z => ?_
    rcases pas a z with z | ⟨_, z⟩
    · exact (S.own a z).elim n fun q => by rw [e] at q; cases q
    · rw [e] at z; cases z
  · obtain ⟨_, ds1, e1⟩ := S.io j ds e
    have hj : j < ρ2.length := by rw [ln]; exact (List.getElem?_eq_some_iff.mp e1).1
    have e2 : ρ2[j]? = some ρ2[j] := List.getElem?_eq_getElem hj
    rcases sl j _ e2 with ⟨_, e3⟩ | ⟨_, b2, es, es', a, us, e4, e3, _⟩
    · rw [e1] at e3
      exact ⟨ds1, by rw [e2]; exact e3.symm⟩
    · rw [e1] at e3; cases e3
      exact ⟨es', by rw [e2, e4]⟩
end

section
variable {X : Cx} {W : WX}
def gAr (X : Cx) (F0 : Addr → Prop) (ρ : En) (σ : St) (H : Hp) (args : List Arg) (Q : List V → Hp → Prop) (svs : List SV) (ρ' : En) : Prop :=
  ∀ vs F1 H', (∀ a, F0 a → F1 a) → (∀ a, F1 a → F0 a ∨ H a = none) → Rl X.K F1 ρ' σ H' → Stp ρ σ H ρ' σ H' → ArgsR X.K F1 ρ' σ H' H args svs vs → Q vs H'
def tArgs (X : Cx) (W : WX) (args : List Arg) : TA := fun σ H Q => ∃ F0 ρ, Rl X.K F0 ρ σ H ∧ Out X W F0 ρ σ H (gAr X F0 ρ σ H args Q) (margs args ρ)
abbrev SAr (X : Cx) (W : WX) (args : List Arg) (es : List Expr) : Prop := PA X es (tArgs X W args)
theorem Out.more {α : Type} {F0 F1 : Addr → Prop} {ρ : En} {σ : St} {H : Hp} {good : α → En → Prop} {r : Rs α} (k : ∀ a, F0 a → F1 a) (o : Out X W F0 ρ σ H good r) : Out X W F1 ρ σ H good r := by
  cases r with
  | ok x ρ' => exact o
  | exc e ρ' => exact fun cv d H' R T x => o cv d H' (R.less k) T x
  | bad => exact o
theorem sar_nil : SAr X W [] [] := pa_nil.imp fun σ H Q ⟨F0, ρ, R, o⟩ => o [] F0 H (fun _ z => z) (fun _ z => .inl z) R (Stp.refl _ _ _) .nil
theorem seqAr {α : Type} {F0 : Addr → Prop} {ρ : En} {σ : St} {H : Hp} {good : α → En → Prop} {args : List Arg} {g : List SV → M α} {Q : List V → Hp → Prop} (R : Rl X.K F0 ρ σ H) (o : Out X W F0 ρ σ H good (mbind (margs args) g ρ))
    (k : ∀ svs ρ1 vs F1 H1, (∀ a, F0 a → F1 a) → (∀ a, F1 a → F0 a ∨ H a = none) → Rl X.K F1 ρ1 σ H1 → Stp ρ σ H ρ1 σ H1 → ArgsR X.K F1 ρ1 σ H1 H args svs vs → Out X W F0 ρ σ H good (g svs ρ1) → Q vs H1) : tArgs X W args σ H Q :=
  ⟨F0, ρ, R, o.bind.imp fun svs ρ1 o1 vs F1 H1 k1 k2 R1 S1 r1 => k svs ρ1 vs F1 H1 k1 k2 R1 S1 r1 o1⟩
theorem sar_d {f : M D} {args : List Arg} {e : Expr} {es : List Expr} (ha : SE X W f e) (hr : SAr X W args es) (hs : starEach (e :: es) X.env = (false, eval e X.env) :: starEach es X.env := by rfl) : SAr X W (.d f :: args) (e :: es) :=
  (pa_cons ha hr hs).imp fun σ H Q ⟨F0, ρ, R, o⟩ => seqE R o fun x ρ1 v H1 R1 S1 r1 o1 => seqAr R1 o1 fun svs ρ2 vs F1 H2 k1 k2 R2 S2 r2 o2 => by
    refine o2 _ F1 H2 k1 (fun a z => (k2 a z).imp id (S1.trk a)) R2 (S1.trans S2) (.d (r1.mono (fun a z => ?_) fun a o e n => S2.keep a o e fun z => n (.inr z)) (r2.weak S1.trk))
    rcases z with z | z
    · exact (k2 a z).imp .inl id
    · exact (S2.own a z).imp .inr id
theorem own_at2 {α : Type} {F0 : Addr → Prop} {ρ ρ0 : En} {σ : St} {H H0 : Hp} {good : α → En → Prop} {i : Nat} {k : List D → M α} {F1 : Addr → Prop} {H1 : Hp} (R : Rl X.K F1 ρ σ H1) (o : Out X W F0 ρ0 σ H0 good (mbind (mown i) k ρ)) :
    ∃ a b ds, ρ[i]? = some (some (.own b ds)) ∧ σ[i]? = some (some (.ref a)) ∧ Out X W F0 ρ0 σ H0 good (k ds ρ) := by
  unfold mbind mown at o
  split at o
  · rename_i x ρ' e
    split at e
    · rename_i b ds e1
      cases e
      obtain ⟨a, vs, e2, _⟩ := R.own i b _ e1
      exact ⟨a, b, _, e1, e2, o⟩
    · cases e
  · rename_i e
    split at e <;> cases e
  · exact o.elim
theorem sar_io {j : Nat} {args : List Arg} {e : Expr} {es : List Expr} (ha : PE X e (tVar j)) (hr : SAr X W args es) (hs : starEach (e :: es) X.env = (false, eval e X.env) :: starEach es X.env := by rfl) : SAr X W (.io j :: args) (e :: es) :=
  (pa_cons ha hr hs).imp fun σ H Q ⟨F0, ρ, R, o⟩ => by
    obtain ⟨a, b, ds, e0, e1, o1⟩ := own_at2 (H1 := H) (H := H) R o
    refine ⟨_, e1, seqAr R o1 fun svs ρ1 vs F1 H1 k1 k2 R1 S1 r1 o2 => ?_⟩
    obtain ⟨a', b', ds', f0, f1, o3⟩ := own_at2 (H := H) R1 o2
    rw [e1] at f1; cases f1
    exact o3 _ F1 H1 k1 k2 R1 S1 (.io f0 e1 r1)
theorem sar_tmp {f : M (List D)} {args : List Arg} {e : Expr} {es : List Expr} (ha : SF X W f e) (hr : SAr X W args es) (hs : starEach (e :: es) X.env = (false, eval e X.env) :: starEach es X.env := by rfl) : SAr X W (.tmp f :: args) (e :: es) :=
  (pa_cons ha hr hs).imp fun σ H Q ⟨F0, ρ, R, o⟩ => seqF R o fun ds ρ1 p us H1 R1 S1 hp hv r1 o1 => by
    have o1 := Out.more (F1 := plus F0 p) (fun a z => .inl z) o1
    refine seqAr R1 o1 fun svs ρ2 vs F1 H2 k1 k2 R2 S2 r2 o2 => ?_
    have np : ¬ Own ρ1 σ p := fun ⟨i, b, es, e, s⟩ => by
      obtain ⟨a, ws, e1, _, _, n⟩ := R1.own i b es e
      rw [s] at e1; cases e1
      exact n (.inr rfl)
    refine o2 _ F1 H2 (fun a z => k1 a (.inl z)) (fun a z => ?_) R2 (S1.trans S2) (.tmp (k1 p (.inr rfl)) hp (S2.keep _ _ hv np) (r1.mono (fun a z => ?_) fun a o e n => S2.keep a o e fun z => n (.inr z)) (fun i es e s => ?_) (r2.weak S1.trk))
    · rcases k2 a z with (z | z) | z
      · exact .inl z
      · rw [z]; exact .inr hp
      · exact .inr (S1.trk a z)
    · rcases z with z | z
      · exact (k2 a z).imp .inl id
      · exact (S2.own a z).imp .inr id
    · obtain ⟨_, a, s2, h⟩ := r2.at_io e
      rw [s] at s2; cases s2
      rcases h with ⟨j, c, _, g1, g2⟩ | ⟨_, g2, _⟩
      · obtain ⟨a', _, f1, _, _, n⟩ := R2.own j c es g1
        rw [g2] at f1; cases f1
        exact n (k1 p (.inr rfl))
      · rw [hv] at g2; cases g2
/-! a call -/
section
variable {m : Fn} {args : List Arg} {k np : Nat} {f : Addr} {fd : FuncData} {ps : List Str} {x : Str} {p pos : Pos} {e : Expr} {es : List Expr}
theorem alc_go {F0 : Addr → Prop} {H H' : Hp} (h : ∀ a, F0 a → ∃ o, H a = some o) (t : ∀ a, H' a = none → H a = none) : ∀ a, F0 a → ∃ o, H' a = some o := fun a z => by
  obtain ⟨o, e⟩ := h a z
  cases e2 : H' a with
  | none => have := t a e2; rw [e] at this; cases this
  | some o' => exact ⟨o', rfl⟩
theorem call_of (nd : (ios args).Nodup) (hnp : args.length = np) : ∀ σ H Q, tE X W (mcall m args) σ H Q → tCallS (spM X.K X.mg np m) (WE W) (tArgs X W args) σ H Q := fun σ H Q ⟨F0, ρ, R, o⟩ => by
  refine seqAr R o fun svs ρ1 vs F1 H1 k1 k2 R1 S1 r1 o1 => ?_
  obtain ⟨pas, Rc, iff⟩ := call_in R1 r1 nd
  refine ⟨by rw [← r1.len.2]; exact hnp, svs, _, Rc, fun i b ds e => (r1.at_io e).1, ?_⟩
  cases em : m svs with
  | bad => rw [em] at o1; exact o1.elim
  | exc ex outs =>
    rw [em] at o1
    simp only at o1
    cases ew : wback args outs ρ1 with
    | none => rw [ew] at o1; exact o1.elim
    | some ρ2 =>
      rw [ew] at o1
      intro cv d H' A xr
      obtain ⟨R2, S2, _⟩ := call_out R1 S1 r1 nd ew (G := F1) (fun _ z => .inl z) (alc_go R1.alc A.trk) (fun a z => (iff a).mpr z) A
      exact o1 cv d H' (R2.less k1) S2 xr
  | ok rv outs =>
    rw [em] at o1
    cases rv with
    | fresh ds => exact o1.elim
    | d y =>
      simp only at o1
      cases ew : wback args outs ρ1 with
      | none => rw [ew] at o1; exact o1.elim
      | some ρ2 =>
        rw [ew] at o1
        intro v H' A ry
        obtain ⟨R2, S2, ow⟩ := call_out R1 S1 r1 nd ew (G := F1) (fun _ z => .inl z) (alc_go R1.alc A.trk) (fun a z => (iff a).mpr z) A
        exact o1 v H' (R2.less k1) S2 (ry.mono (fun a z => .inl ((iff a).mpr (z.imp (k1 a) (ow a)))) fun _ _ e _ => e)
theorem callF_of (nd : (ios args).Nodup) (hnp : args.length = np) : ∀ σ H Q, tF X W (mcallF m args) σ H Q → tCallS (spM X.K X.mg np m) (WE W) (tArgs X W args) σ H Q := fun σ H Q ⟨F0, ρ, R, o⟩ => by
  refine seqAr R o fun svs ρ1 vs F1 H1 k1 k2 R1 S1 r1 o1 => ?_
  obtain ⟨pas, Rc, iff⟩ := call_in R1 r1 nd
  refine ⟨by rw [← r1.len.2]; exact hnp, svs, _, Rc, fun i b ds e => (r1.at_io e).1, ?_⟩
  cases em : m svs with
  | bad => rw [em] at o1; exact o1.elim
  | exc ex outs =>
    rw [em] at o1
    simp only at o1
    cases ew : wback args outs ρ1 with
    | none => rw [ew] at o1; exact o1.elim
    | some ρ2 =>
      rw [ew] at o1
      intro cv d H' A xr
      obtain ⟨R2, S2, _⟩ := call_out R1 S1 r1 nd ew (G := F1) (fun _ z => .inl z) (alc_go R1.alc A.trk) (fun a z => (iff a).mpr z) A
      exact o1 cv d H' (R2.less k1) S2 xr
  | ok rv outs =>
    rw [em] at o1
    cases rv with
    | d y => exact o1.elim
    | fresh ds =>
      simp only at o1
      cases ew : wback args outs ρ1 with
      | none => rw [ew] at o1; exact o1.elim
      | some ρ2 =>
        rw [ew] at o1
        intro p us H' A hp hv ry
        have iff2 : ∀ a, Fav (plus F1 p) ρ1 σ a → FavC (plus (fun a => Fav F1 ρ1 σ a ∧ ¬ Pas svs vs a) p) svs vs a := fun a z => by
          rcases z with (z | z) | z
          · exact ((iff a).mpr (.inl z)).imp .inl id
          · exact .inl (.inr z)
          · exact ((iff a).mpr (.inr z)).imp .inl id
        obtain ⟨R2, S2, ow⟩ := call_out R1 S1 r1 nd ew (G := plus F1 p) (fun a z => z.imp id fun q => by rw [q]; exact hp) (fun a z => z.elim (fun z => alc_go R1.alc A.trk a z) fun q => ⟨.lst us, by rw [q]; exact hv⟩) iff2 A
        exact o1 p us H' (R2.less fun a z => z.imp (k1 a) id) S2 (S1.trk p hp) hv (ry.mono (fun a z => .inl (iff2 a (z.imp (fun z => z.imp (k1 a) id) (ow a)))) fun _ _ e _ => e)
theorem se_call (G : FnOk X.prog X.w X.K X.mg X.base (L2.CX X.prog X.w) k f fd ps (spM X.K X.mg np m)) (hr : Room k X.A) (hg : Gl X x) (hm : X.mg x = some (.ref f)) (hk : PySem.W.keepIn X.K (.ref f) = true) (hb : Binds X.K fd ps []) (tk : Takes X W)
    (ha : SAr X W args (e :: es)) (nd : (ios args).Nodup := by decide) (hnp : args.length = np := by rfl) (hdb : (x == ("__debug__" : Str)) = false := by decide) (he : starEach (e :: es) X.env = (false, eval e X.env) :: starEach es X.env := by rfl) (hpl : (backTo pos (starEach es X.env)).any (·.1) = false := by rfl) :
    SE X W (mcall m args) (.Call (.Name x p) (e :: es) [] pos) := (pe_callS G hr hg hm hk hb (fun σ => passAt tk σ) ha hdb he hpl).imp (call_of nd hnp)
theorem sf_call (G : FnOk X.prog X.w X.K X.mg X.base (L2.CX X.prog X.w) k f fd ps (spM X.K X.mg np m)) (hr : Room k X.A) (hg : Gl X x) (hm : X.mg x = some (.ref f)) (hk : PySem.W.keepIn X.K (.ref f) = true) (hb : Binds X.K fd ps []) (tk : Takes X W)
    (ha : SAr X W args (e :: es)) (nd : (ios args).Nodup := by decide) (hnp : args.length = np := by rfl) (hdb : (x == ("__debug__" : Str)) = false := by decide) (he : starEach (e :: es) X.env = (false, eval e X.env) :: starEach es X.env := by rfl) (hpl : (backTo pos (starEach es X.env)).any (·.1) = false := by rfl) :
    SF X W (mcallF m args) (.Call (.Name x p) (e :: es) [] pos) := (pe_callS G hr hg hm hk hb (fun σ => passAt tk σ) ha hdb he hpl).imp (callF_of nd hnp)
end
end
end Z

namespace Z
open PySem L2
section
variable {X : Cx} {W : WX} {pos : Pos}
/-! ### list + list, list * int: new lists -/
def Sem2F (X : Cx) (r : R2) (sem : D → D → Option (List D)) : Prop := ∀ {F : Addr → Prop} {H : Hp} {x y : D} {ds : List D} {v u : V} {Q : VK}, (∀ a, F a → ∃ o, H a = some o) → Bor X.K F H x v → Bor X.K F H y u → sem x y = some ds →
  (∀ p vs, H p = none → Reps X.K F H ds vs → Q (.ref p) (upd H p (.lst vs))) → r v u H Q
def mop2F (sem : D → D → Option (List D)) : Opd → Opd → M (List D)
  | .val f, .val g => mbind f fun x => mbind g fun y => mopt (sem x y)
  | .slot i, .val g => mbind (mget i) fun _ => mbind g fun y => mbind (mget i) fun x => mopt (sem x y)
  | .val f, .slot j => mbind f fun x => mbind (mget j) fun y => mopt (sem x y)
  | .slot i, .slot j => mbind (mget i) fun x => mbind (mget j) fun y => mopt (sem x y)
theorem op2F_of {r : R2} {sem : D → D → Option (List D)} (h : Sem2F X r sem) {p q : Opd} : ∀ σ H Q, tF X W (mop2F sem p q) σ H Q → tOp r (tO X W p) (tO X W q) σ H Q := fun σ H Q ⟨F0, ρ, R, o⟩ =>
  opd2 (k := fun x y => mopt (sem x y)) (good := gF X F0 ρ σ H Q) R (by cases p <;> cases q <;> exact o) fun x y ρ2 v u H2 R2 S2 b1 b2 o2 => by
    obtain ⟨z, e, q⟩ := Out.opt o2
    refine h R2.fav_alc b1 b2 e fun p vs hp r3 => ?_
    have k := Same.new hp (.lst vs)
    exact q p vs _ (R2.more k hp ⟨_, upd_same⟩) (S2.trans (Stp.same k)) (S2.trk p hp) upd_same (r3.more k hp)
theorem sf_op {op : Operator} {r : R2} {sem : D → D → Option (List D)} {p q : Opd} {a b : Expr} (ho : OpR X (binaryOp op) r) (h : Sem2F X r sem) (ha : SO X W p a) (hb : SO X W q b) : SF X W (mop2F sem p q) (.BinOp a op b pos) := (pe_op ho ha hb).imp (op2F_of h)
def catL : D → D → Option (List D)
  | .lst xs, .lst ys => if xs.length + ys.length ≤ sizeLine then some (xs ++ ys) else none
  | _, _ => none
theorem sem_cat : Sem2F X rCat catL := fun {F H x y ds v u Q} al rx ry e q => by
  unfold catL at e
  split at e
  · split at e
    · rename_i hz; cases e
      obtain ⟨a, vs, rfl, ha, ra⟩ := rx.v_lstH
      obtain ⟨b, us, rfl, hb, rb⟩ := ry.v_lstH
      exact ⟨a, b, vs, us, rfl, rfl, ha, hb, by rw [← ra.length, ← rb.length]; exact hz, fun p hp => q p _ hp (ra.append rb)⟩
    · cases e
  · cases e
theorem Reps.rep {K : PySem.W.Frag} {F : Addr → Prop} {H : Hp} {ds : List D} {vs : List V} (r : Reps K F H ds vs) : ∀ k : Nat, Reps K F H (List.replicate k ds).flatten (List.replicate k vs).flatten
  | 0 => .nil
  | k + 1 => by
    rw [List.replicate_succ, List.replicate_succ, List.flatten_cons, List.flatten_cons]
    exact r.append (Reps.rep r k)
def repL : D → D → Option (List D)
  | .lst xs, .int k => if -(2 ^ 63) ≤ k ∧ k < 2 ^ 63 ∧ xs.length * k.toNat ≤ sizeLine then some (List.replicate k.toNat xs).flatten else none
  | _, _ => none
theorem sem_rep : Sem2F X rRep repL := fun {F H x y ds v u Q} al rx ry e q => by
  unfold repL at e
  split at e
  · split at e
    · rename_i hz; cases e
      obtain ⟨a, vs, rfl, ha, ra⟩ := rx.v_lstH
      exact ⟨a, _, vs, rfl, ry.v_int, ha, hz.1, hz.2.1, by rw [← ra.length]; exact hz.2.2, fun p hp => q p _ hp (ra.rep _)⟩
    · cases e
  · cases e

/-! ### slices -/
def tPo (X : Cx) (W : WX) (f : M (Option Int)) : TO := fun σ H Q => ∃ F0 ρ, Rl X.K F0 ρ σ H ∧ Out X W F0 ρ σ H (fun o ρ' => ∀ H', Rl X.K F0 ρ' σ H' → Stp ρ σ H ρ' σ H' → Q o H') (f ρ)
abbrev SPo (X : Cx) (W : WX) (f : M (Option Int)) (e : Option Expr) : Prop := PO X e (tPo X W f)
theorem _root_.L2.PO.imp {X : Cx} {e : Option Expr} {t t' : TO} (h : PO X e t) (k : ∀ σ H Q, t' σ H Q → t σ H Q) : PO X e t' := ⟨fun pins s σ H Q I q => h.run pins s σ H Q I (k _ _ _ q)⟩
def toI : D → Option Int
  | .int i => some i
  | _ => none
theorem spo_none : SPo X W (mpure none) none := po_none.imp fun σ H Q ⟨F0, ρ, R, o⟩ => o H R (Stp.refl _ _ _)
theorem spo_some {f : M D} {e : Expr} (h : SE X W f e) : SPo X W (mbind f fun x => mbind (mopt (toI x)) fun i => mpure (some i)) (some e) := (po_some h).imp fun σ H Q ⟨F0, ρ, R, o⟩ =>
  seqE R o fun x ρ1 v H1 R1 S1 r1 o1 => by
    obtain ⟨i, e, q⟩ := Out.opt (Out.bind o1)
    cases x with
    | int n => cases e; exact ⟨_, r1.v_int, q H1 R1 S1⟩
    | non => cases e
    | bl b => cases e
    | str b => cases e
    | tup b => cases e
    | lst b => cases e
    | kls b => cases e
def cutG {α : Type} (xs : List α) (lo hi : Option Int) : List α := (xs.drop (HT.sIx xs.length 0 lo)).take (HT.sIx xs.length xs.length hi - HT.sIx xs.length 0 lo)
theorem reps_cut {K : PySem.W.Frag} {F : Addr → Prop} {H : Hp} {ds : List D} {vs : List V} (r : Reps K F H ds vs) (lo hi : Option Int) : Reps K F H (cutG ds lo hi) (cutV vs lo hi) := by
  unfold cutG cutV
  rw [r.length]
  exact (r.drop _).take _
theorem seqPo {α : Type} {F0 : Addr → Prop} {ρ : En} {σ : St} {H : Hp} {good : α → En → Prop} {f : M (Option Int)} {g : Option Int → M α} {Q : Option Int → Hp → Prop} (R : Rl X.K F0 ρ σ H) (o : Out X W F0 ρ σ H good (mbind f g ρ))
    (k : ∀ x ρ1 H1, Rl X.K F0 ρ1 σ H1 → Stp ρ σ H ρ1 σ H1 → Out X W F0 ρ1 σ H1 good (g x ρ1) → Q x H1) : tPo X W f σ H Q :=
  ⟨F0, ρ, R, o.bind.imp fun x ρ1 o1 H1 R1 S1 => k x ρ1 H1 R1 S1 (o1.step S1)⟩
/-- of a tuple -/
def cutT (x : D) (lo hi : Option Int) : Option D := match x with
  | .tup xs => some (.tup (cutG xs lo hi))
  | _ => none
def cutLL (x : D) (lo hi : Option Int) : Option (List D) := match x with
  | .lst xs => some (cutG xs lo hi)
  | .kls xs => some (cutG xs lo hi)
  | _ => none
def mcut (p : Opd) (l u : M (Option Int)) : M D := match p with
  | .val f => mbind f fun x => mbind l fun lo => mbind u fun hi => mopt (cutT x lo hi)
  | .slot i => mbind (mget i) fun _ => mbind l fun lo => mbind u fun hi => mbind (mget i) fun x => mopt (cutT x lo hi)
theorem cut_end {F : Addr → Prop} {H : Hp} {xs : List D} {v : V} {lo hi : Option Int} {Q : VK} (al : ∀ a, F a → ∃ o, H a = some o) (r : Rep X.K F H (.tup xs) v) (q : ∀ w H', Same H H' → Rep X.K F H' (.tup (cutG xs lo hi)) w → Q w H') : rSlA X.K v lo hi H Q := by
  obtain ⟨a, vs, rfl, h, rs⟩ := r.v_tup
  refine ⟨a, vs, rfl, h, fun z => ?_, fun _ p hp => q _ _ (Same.new hp _) (rep_newT al hp (reps_cut rs lo hi))⟩
  have e : cutG xs lo hi = xs := by
    unfold cutG
    rw [rs.length, z.1, z.2]
    simp
    rw [← rs.length]; simp
  rw [e] at q
  exact q _ _ (Same.refl _) r
theorem se_cut {p : Opd} {l u : M (Option Int)} {e : Expr} {lo hi : Option Expr} {p2 : Pos} (ha : SO X W p e) (hl : SPo X W l lo) (hu : SPo X W u hi) : SE X W (mcut p l u) (.Subscript e (.Slice lo hi none p2) pos) := (pe_slice sl_tupA ha hl hu).imp fun σ H Q ⟨F0, ρ, R, o⟩ => by
  cases p with
  | val f =>
    refine seqE R o fun x ρ1 v H1 R1 S1 r1 o1 => seqPo R1 o1 fun lo ρ2 H2 R2 S2 o2 => seqPo R2 o2 fun hi ρ3 H3 R3 S3 o3 => ?_
    cases x with
    | tup xs => exact cut_end R3.fav_alc (S3.rep (S2.rep r1)) fun w H' k r => o3 w H' (R3.same k) (S1.trans (S2.trans (S3.trans (Stp.same k)))) r
    | non => exact o3.elim
    | bl b => exact o3.elim
    | int b => exact o3.elim
    | str b => exact o3.elim
    | lst b => exact o3.elim
    | kls b => exact o3.elim
  | slot i =>
    obtain ⟨v, x, e1, b1, o1⟩ := get_at R o
    refine ⟨_, e1, seqPo R o1 fun lo ρ2 H2 R2 S2 o2 => seqPo R2 o2 fun hi ρ3 H3 R3 S3 o3 => ?_⟩
    obtain ⟨v', x', e1', b3, o4⟩ := get_at R3 o3
    rw [e1] at e1'; cases e1'
    cases x' with
    | tup xs => exact cut_end R3.fav_alc b3 fun w H' k r => o4 w H' (R3.same k) (S2.trans (S3.trans (Stp.same k))) r
    | non => exact o4.elim
    | bl b => exact o4.elim
    | int b => exact o4.elim
    | str b => exact o4.elim
    | lst b => exact o4.elim
    | kls b => exact o4.elim
/-- of a list: a new list -/
def mcutL (p : Opd) (l u : M (Option Int)) : M (List D) := match p with
  | .val f => mbind f fun x => mbind l fun lo => mbind u fun hi => mopt (cutLL x lo hi)
  | .slot i => mbind (mget i) fun _ => mbind l fun lo => mbind u fun hi => mbind (mget i) fun x => mopt (cutLL x lo hi)
theorem sf_cut {p : Opd} {l u : M (Option Int)} {e : Expr} {lo hi : Option Expr} {p2 : Pos} (ha : SO X W p e) (hl : SPo X W l lo) (hu : SPo X W u hi) : SF X W (mcutL p l u) (.Subscript e (.Slice lo hi none p2) pos) := (pe_slice sl_list ha hl hu).imp fun σ H Q ⟨F0, ρ, R, o⟩ => by
  have fin : ∀ {ρ3 : En} {H3 : Hp} {xs : List D} {lo hi : Option Int} {a : Addr} {vs : List V}, Rl X.K F0 ρ3 σ H3 → Stp ρ σ H ρ3 σ H3 → SqL X.K H3 a vs → Reps X.K (Fav F0 ρ3 σ) H3 xs vs → gF X F0 ρ σ H Q (cutG xs lo hi) ρ3 → rSlL X.K (.ref a) lo hi H3 Q := fun {ρ3 H3 xs lo hi a vs} R3 S3 h rs o3 => by
    refine ⟨a, vs, rfl, h, fun p hp => ?_⟩
    have k := Same.new hp (.lst (cutV vs lo hi))
    exact o3 p _ _ (R3.more k hp ⟨_, upd_same⟩) (S3.trans (Stp.same k)) (S3.trk p hp) upd_same ((reps_cut rs lo hi).more k hp)
  cases p with
  | val f =>
    refine seqE R o fun x ρ1 v H1 R1 S1 r1 o1 => seqPo R1 o1 fun lo ρ2 H2 R2 S2 o2 => seqPo R2 o2 fun hi ρ3 H3 R3 S3 o3 => ?_
    have r3 := S3.rep (S2.rep r1)
    cases x with
    | lst xs => obtain ⟨a, vs, rfl, h, rs⟩ := r3.v_lst; exact fin R3 (S1.trans (S2.trans S3)) h rs o3
    | kls xs => obtain ⟨a, vs, rfl, h, rs⟩ := r3.v_kls; exact fin R3 (S1.trans (S2.trans S3)) h rs o3
    | non => exact o3.elim
    | bl b => exact o3.elim
    | int b => exact o3.elim
    | str b => exact o3.elim
    | tup b => exact o3.elim
  | slot i =>
    obtain ⟨v, x, e1, b1, o1⟩ := get_at R o
    refine ⟨_, e1, seqPo R o1 fun lo ρ2 H2 R2 S2 o2 => seqPo R2 o2 fun hi ρ3 H3 R3 S3 o3 => ?_⟩
    obtain ⟨v', x', e1', b3, o4⟩ := get_at R3 o3
    rw [e1] at e1'; cases e1'
    cases x' with
    | lst xs => obtain ⟨a, vs, rfl, h, rs⟩ := b3.v_lst; exact fin R3 (S2.trans S3) h rs o4
    | kls xs => obtain ⟨a, vs, rfl, h, rs⟩ := b3.v_kls; exact fin R3 (S2.trans S3) h rs o4
    | non => exact o4.elim
    | bl b => exact o4.elim
    | int b => exact o4.elim
    | str b => exact o4.elim
    | tup b => exact o4.elim
/-- a target of any form -/
def masg (f : M D) (t : D → M Unit) : M Flow := mbind f fun x ρ => match t x ρ with
  | .ok _ ρ' => .ok .nx ρ'
  | _ => .bad
theorem ss_asg {tg e : Expr} {f : M D} {js : List Nat} {t : D → M Unit} (he : SE X W f e) (hg : SG X js t tg) (hs : swapsWithSole [tg] e pos.line X.env = pure false := by rfl) (hw : swappedStores [tg] e X.env = pure none := by rfl)
    (h1 : (assignEach [tg] X.env).map (·.2) = [assign tg X.env] := by rfl) : SS X W (masg f t) (.Assign [tg] e pos) := (ps_asg he hg hs hw h1).imp fun D σ H ⟨F0, ρ, R, o⟩ =>
  sqE R o fun x ρ1 v H1 R1 S1 r1 o1 => by
    refine ⟨F0, ρ1, x, R1, r1, ?_⟩
    cases e : t x ρ1 with
    | bad => rw [e] at o1; exact o1.elim
    | exc z ρ' => rw [e] at o1; exact o1.elim
    | ok u ρ' =>
      rw [e] at o1
      exact fun σ' H' R' S' _ _ => o1 σ' H' R' S'
/-- return of a list of one's own -/
theorem ss_retO {i : Nat} {e : Expr} (h : PE X e (tVar i)) : SS X W (mretO i) (.Return (some e) pos) := (ps_ret h).imp fun D σ H ⟨F0, ρ, R, o⟩ => by
  unfold mretO at o
  split at o
  · rename_i ds e
    obtain ⟨a, vs, e1, e2, r, n⟩ := R.own i false ds e
    -- the rest keeps from it
    have R1 : Rl X.K (plus F0 a) (ρ.set i none) σ H := by
      have sub : ∀ (j : Nat) (u : SV), (ρ.set i none)[j]? = some (some u) → j ≠ i ∧ ρ[j]? = some (some u) := fun j u ej => by
        rcases set_get ej with ⟨_, z⟩ | ⟨ne, ej⟩
        · cases z
        · exact ⟨ne, ej⟩
      have m : ∀ c, Fav (plus F0 a) (ρ.set i none) σ c → Fav F0 ρ σ c ∨ H c = none := fun c z => by
        rcases z with (z | z) | ⟨j, b, es, ej, s⟩
        · exact .inl (.inl z)
        · rw [z]; exact .inl (.inr ⟨i, false, ds, e, e1⟩)
        · exact .inl (.inr ⟨j, b, es, (sub j _ ej).2, s⟩)
      have m2 : ∀ c o, H c = some o → ¬ Fav F0 ρ σ c → H c = some o := fun _ _ e _ => e
      refine ⟨by rw [List.length_set]; exact R.len, fun j y ej => ?_, fun j b es ej => ?_, fun j k b c es fs q ej ek sj sk => ?_, fun c z => ?_⟩
      · obtain ⟨v, f1, f2⟩ := R.dat j y (sub j _ ej).2
        exact ⟨v, f1, f2.mono m m2⟩
      · obtain ⟨ne, ej⟩ := sub j _ ej
        obtain ⟨c, us, f1, f2, f3, f4⟩ := R.own j b es ej
        refine ⟨c, us, f1, f2, f3.mono m m2, fun z => z.elim f4 fun q => ne (R.inj j i b false es ds a ej e (by rw [← q]; exact f1) e1)⟩
      · exact R.inj j k b c es fs q (sub j _ ej).2 (sub k _ ek).2 sj sk
      · rcases z with z | z
        · exact R.alc c z
        · exact ⟨_, by rw [z]; exact e2⟩
    have S1 : Stp ρ σ H (ρ.set i none) σ H := by
      refine ⟨fun _ _ e _ => e, fun c ⟨j, b, es, ej, s⟩ => ?_, fun _ e => e, fun j es ej => ?_, List.length_set⟩
      · rcases set_get ej with ⟨_, z⟩ | ⟨ne, ej⟩
        · cases z
        · exact .inl ⟨j, b, es, ej, s⟩
      · have ne : j ≠ i := fun z => by rw [z, e] at ej; cases ej
        exact ⟨rfl, es, by rw [List.getElem?_set_ne (Ne.symm ne)]; exact ej⟩
    refine ⟨_, e1, o a vs σ H R1 S1 (.inl ⟨i, false, ds, e, e1⟩) e2 (r.mono (fun c z => ?_) fun _ _ e _ => e)⟩
    rcases z with (z | z) | z
    · exact .inl (.inl z)
    · rw [z]; exact .inl (.inr ⟨i, false, ds, e, e1⟩)
    · rcases S1.own c z with z | z
      · exact .inl (.inr z)
      · exact .inr z
  · exact o.elim
theorem ss_for1 {iter tg : Expr} {body : List Stmt} {f : M (List D)} {js : List Nat} {t : D → M Unit} {g : M Flow} (hp : PassesOwn (model X.prog X.w) X.A X.env X.xe) (hc : X.calm = true) (hi : SI X W f tg iter) (hg : SG X js t tg) (hb : SSs X W g body)
    (hs : ∀ x, foldedSetIterable iter X.env x = pure x := by intro _; rfl) : SS X W (mforS f t g) (.For tg iter body [] pos) := ss_for hp hc hi hg hb (ps_for hp hc hi hg hb hs)
end
theorem fn_bad {P : Program} {w : World} {K : PySem.W.Frag} {mg : Str → Option Value} {base : Heap} {CX : CXT} {k np : Nat} {f : Addr} {fd : FuncData} {ps : List Str} : FnOk P w K mg base CX k f fd ps (spM K mg np fun _ => .bad) :=
  ⟨fun vs H Q E h => (by obtain ⟨_, as, F0, _, _, o⟩ := h; exact o.elim), fun A outer s H args us vs Q E _ _ _ _ h => (by obtain ⟨_, as, F0, _, _, o⟩ := h; exact o.elim)⟩
/-! ### the law's end -/
def spLaw (K : PySem.W.Frag) : Sp := fun vs H Q _ => ∃ (a : Addr) (ns : List Int), vs = [.ref a] ∧ SqL K H a (ns.map V.int) ∧ ns.length ≤ 63 ∧ ∀ H', Q (.bl true) H'
def lawArg (ns : List Int) : List SV := [.d (.kls (ns.map D.int))]
theorem law_imp {K : PySem.W.Frag} {mg : Str → Option Value} {m : Fn} (main : ∀ ns : List Int, ns.length ≤ 63 → ∃ outs, m (lawArg ns) = .ok (.d (.bl true)) outs) : ∀ vs H Q E, spLaw K vs H Q E → spM K mg 1 m vs H Q E := fun vs H Q E h => by
  obtain ⟨a, ns, rfl, h, hl, q⟩ := h
  obtain ⟨outs, e⟩ := main ns hl
  refine ⟨rfl, lawArg ns, fun _ => False, ⟨rfl, fun i x e => ?_, fun i b ds e => ?_, fun i j b c ds es a e => ?_, fun a z => z.elim⟩, fun i b ds e => ?_, ?_⟩
  · have z : ∀ a, Fav (fun _ => False) ((lawArg ns).map some) ([V.ref a].map some) a → False := fun c z => by
      rcases z with z | ⟨j, b, ds, e, _⟩
      · exact z
      · cases j with
        | zero => cases e
        | succ j => simp [lawArg] at e
    cases i with
    | zero =>
      cases e
      refine ⟨_, rfl, .kls h (.inl fun z' => ?_) (Reps.ints ns)⟩
      rcases z' with z' | ⟨j, b, ds, e, _⟩
      · exact z'
      · cases j with
        | zero => cases e
        | succ j => simp [lawArg] at e
    | succ i => simp [lawArg] at e
  · cases i with
    | zero => cases e
    | succ j => simp [lawArg] at e
  · cases i with
    | zero => cases e
    | succ j => simp [lawArg] at e
  · cases i with
    | zero => cases e
    | succ j => simp [lawArg] at e
  · rw [e]
    intro v H' A r
    rw [r.v_bl]
    exact q H'
theorem cx_no {P : Program} {w : World} (H : Hp) (s : Shared) (e : Value) (s' : Shared) (h : L2.CX P w [] H s (fun _ _ _ => False) e s') : False := by
  obtain ⟨_, _, _, _, _, _, _, _, _, _, _, _, z⟩ := h
  exact z
theorem walk {l : PySem.W.OpenLaw} {q : Program} {loose : List Str} {XP : (Str → Option Value) → Heap → Prop} {YP : World → Heap → Prop} {d : DefRec} {K : Params → PySem.W.Frag} (k : Nat) (hk : Room k callerA) (hn : l.most = some 63) (hdf : d.params.defaults = [])
    (hY : ∀ (w : World) (h : Heap), YP w h → (K w.params).In h)
    (F : ∀ (w : World) (mg : Str → Option Value) (fa : Addr) (h : Heap), (K w.params).In h → h.Ns mainGlobals mg → mg d.name = some (.ref fa) →
      ∃ fd : FuncData, (∀ (s : Shared) (u : Value), BindsTo s fd ⟨[u], []⟩ [("script", u)]) ∧ ∀ base : Heap, (K w.params).In base → base.Ns mainGlobals mg → FnOk l.prog w (K w.params) mg base (L2.CX l.prog w) k fa fd ["script"] (spLaw (K w.params))) :
    PySem.W.WalkO q loose XP YP l.row.toRowW d [] (fun f vs => PySem.call f vs) :=
  L2.walk_of (n := 63) (k := k) (x := "script") (CX := fun w => L2.CX l.prog w) (sp := fun w => spLaw (K w.params)) hn (by decide) hdf hk hY F (fun _ _ a ns hl _ hS => ⟨a, ns, rfl, hS, hl, fun _ => rfl⟩) fun w H s e s' z => cx_no H s e s' z
end Z

/-! Z, the second half: what a run comes to, said backwards (no text in sight) -/
namespace Z
open PySem L2

def wp {α : Type} (f : M α) (ρ : En) (Q : α → En → Prop) : Prop := ∃ a ρ', f ρ = .ok a ρ' ∧ Q a ρ'
def fwp (m : Fn) (as : List SV) (Q : RV → En → Prop) : Prop := ∃ x outs, m as = .ok x outs ∧ Q x outs
def optQ {α : Type} (o : Option α) (P : α → Prop) : Prop := ∃ x, o = some x ∧ P x
/-- what is read of a slot -/
def getQ (s : Option (Option SV)) (P : D → Prop) : Prop := match s with
  | some (some (.own _ ds)) => P (.lst ds)
  | some (some (.d x)) => P x
  | _ => False
def ownQ (s : Option (Option SV)) (P : List D → Prop) : Prop := match s with
  | some (some (.own _ ds)) => P ds
  | _ => False
def valQ (s : Option (Option SV)) (P : D → Prop) : Prop := match s with
  | some (some (.d x)) => P x
  | some (some (.own false ds)) => P (.lst ds)
  | _ => False
def valO (s : Option (Option SV)) (P : List D → Prop) : Prop := match s with
  | some (some (.own false ds)) => P ds
  | _ => False
def setQ (s : Option (Option SV)) (P : Prop) : Prop := match s with
  | some (some (.own true _)) => False
  | some _ => P
  | none => False
def putQ (s : Option (Option SV)) (P : Bool → List D → Prop) : Prop := match s with
  | some (some (.own b ds)) => P b ds
  | _ => False
/-- one of two ways -/
def ifQ (b : Bool) (A B : Prop) : Prop := if b = true then A else B
theorem ifQ_t {A B : Prop} : ifQ true A B ↔ A := by unfold ifQ; simp
theorem ifQ_f {A B : Prop} : ifQ false A B ↔ B := by unfold ifQ; simp
theorem ifQ_of {b : Bool} {A B : Prop} (h1 : b = true → A) (h2 : b = false → B) : ifQ b A B := by
  cases b with
  | true => exact ifQ_t.mpr (h1 rfl)
  | false => exact ifQ_f.mpr (h2 rfl)
theorem ifQ_d {p : Prop} [Decidable p] {A B : Prop} (h1 : p → A) (h2 : ¬ p → B) : ifQ (decide p) A B := ifQ_of (fun h => h1 (of_decide_eq_true h)) fun h => h2 (of_decide_eq_false h)
theorem ifQ_n {p : Prop} [Decidable p] {A B : Prop} (h1 : ¬ p → A) (h2 : p → B) : ifQ (!decide p) A B := ifQ_of (fun h => h1 (by simpa using h)) fun h => h2 (by simpa using h)
section
variable {α β : Type} {f : M α} {g : α → M β} {ρ : En}
theorem wp_mono {Q Q' : α → En → Prop} (h : wp f ρ Q) (k : ∀ a ρ', Q a ρ' → Q' a ρ') : wp f ρ Q' := by
  obtain ⟨a, ρ', e, q⟩ := h
  exact ⟨a, ρ', e, k _ _ q⟩
theorem fwp_mono {m : Fn} {as : List SV} {Q Q' : RV → En → Prop} (h : fwp m as Q) (k : ∀ a ρ', Q a ρ' → Q' a ρ') : fwp m as Q' := by
  obtain ⟨a, ρ', e, q⟩ := h
  exact ⟨a, ρ', e, k _ _ q⟩
theorem wp_pure {a : α} {Q : α → En → Prop} : wp (mpure a) ρ Q ↔ Q a ρ := by
  constructor
  · rintro ⟨b, ρ', e, q⟩; cases e; exact q
  · exact fun q => ⟨_, _, rfl, q⟩
theorem wp_bad {Q : α → En → Prop} : wp (mbad : M α) ρ Q ↔ False := by
  constructor
  · rintro ⟨b, ρ', e, q⟩; cases e
  · exact False.elim
theorem wp_bind {Q : β → En → Prop} : wp (mbind f g) ρ Q ↔ wp f ρ fun a ρ' => wp (g a) ρ' Q := by
  constructor
  · rintro ⟨b, ρ', e, q⟩
    unfold mbind at e
    cases ef : f ρ with
    | ok a ρ1 => rw [ef] at e; exact ⟨a, ρ1, ef, b, ρ', e, q⟩
    | exc x ρ1 => rw [ef] at e; cases e
    | bad => rw [ef] at e; cases e
  · rintro ⟨a, ρ1, ef, b, ρ', e, q⟩
    exact ⟨b, ρ', by unfold mbind; rw [ef]; exact e, q⟩
theorem wp_opt {o : Option α} {Q : α → En → Prop} : wp (mopt o) ρ Q ↔ optQ o fun x => Q x ρ := by
  cases o with
  | none => exact ⟨fun ⟨_, _, e, _⟩ => (by cases e), fun ⟨_, e, _⟩ => (by cases e)⟩
  | some x => exact ⟨fun ⟨_, _, e, q⟩ => (by cases e; exact ⟨_, rfl, q⟩), fun ⟨_, e, q⟩ => (by cases e; exact ⟨_, _, rfl, q⟩)⟩
theorem optQ_some {x : α} {P : α → Prop} : optQ (some x) P ↔ P x := ⟨fun ⟨_, e, q⟩ => (by cases e; exact q), fun q => ⟨_, rfl, q⟩⟩
theorem optQ_none {P : α → Prop} : optQ (none : Option α) P ↔ False := ⟨fun ⟨_, e, q⟩ => (by cases e), False.elim⟩
theorem optQ_map {o : Option α} {h : α → β} {P : β → Prop} : optQ (o.map h) P ↔ optQ o fun x => P (h x) := by
  cases o with
  | none => exact ⟨fun ⟨_, e, _⟩ => (by cases e), fun ⟨_, e, _⟩ => (by cases e)⟩
  | some x => exact ⟨fun ⟨_, e, q⟩ => (by cases e; exact ⟨_, rfl, q⟩), fun ⟨_, e, q⟩ => (by cases e; exact ⟨_, rfl, q⟩)⟩
theorem wp_get {i : Nat} {Q : D → En → Prop} : wp (mget i) ρ Q ↔ getQ ρ[i]? fun x => Q x ρ := by
  unfold wp mget getQ
  constructor
  · rintro ⟨a, ρ', e, q⟩
    split at e <;> cases e <;> (rename_i h; (try rw [h]); exact q)
  · intro q
    split at q
    · rename_i h; (try rw [h]); exact ⟨_, _, rfl, q⟩
    · rename_i h; (try rw [h]); exact ⟨_, _, rfl, q⟩
    · exact q.elim
theorem wp_own {i : Nat} {Q : List D → En → Prop} : wp (mown i) ρ Q ↔ ownQ ρ[i]? fun x => Q x ρ := by
  unfold wp mown ownQ
  constructor
  · rintro ⟨a, ρ', e, q⟩
    split at e
    · cases e; rename_i h; (try rw [h]); exact q
    · cases e
  · intro q
    split at q
    · rename_i h; (try rw [h]); exact ⟨_, _, rfl, q⟩
    · exact q.elim
theorem wp_val {i : Nat} {Q : D → En → Prop} : wp (mval i) ρ Q ↔ valQ ρ[i]? fun x => Q x (ρ.set i (some (.d x))) := by
  unfold wp mval valQ
  constructor
  · rintro ⟨a, ρ', e, q⟩
    split at e <;> cases e <;> (rename_i h; (try rw [h]); exact q)
  · intro q
    split at q
    · rename_i h; (try rw [h]); exact ⟨_, _, rfl, q⟩
    · rename_i h; (try rw [h]); exact ⟨_, _, rfl, q⟩
    · exact q.elim
theorem wp_store {i : Nat} {u : SV} {Q : Z.Flow → En → Prop} : wp (mstore i u) ρ Q ↔ setQ ρ[i]? (Q .nx (ρ.set i (some u))) := by
  unfold wp mstore setQ
  constructor
  · rintro ⟨a, ρ', e, q⟩
    split at e
    · cases e
    · cases e
      rename_i hn h
      (try rw [h])
      first
        | exact q
        | (split
           · rename_i e2; cases e2; exact (hn _ rfl).elim
           · exact q
           · rename_i e2; cases e2)
    · cases e
  · intro q
    split at q
    · exact q.elim
    · rename_i u' hn h
      (try rw [h])
      cases u' with
      | none => exact ⟨_, _, rfl, q⟩
      | some sv =>
        cases sv with
        | d x => exact ⟨_, _, rfl, q⟩
        | own b ds =>
          cases b with
          | false => exact ⟨_, _, rfl, q⟩
          | true => exact (hn ds rfl).elim
    · exact q.elim
theorem wp_gnm {i : Nat} {x : D} {Q : Unit → En → Prop} : wp (gnm i x) ρ Q ↔ setQ ρ[i]? (Q () (ρ.set i (some (.d x)))) := by
  unfold wp gnm setQ
  constructor
  · rintro ⟨a, ρ', e, q⟩
    split at e
    · cases e
    · cases e
      rename_i hn h
      (try rw [h])
      first
        | exact q
        | (split
           · rename_i e2; cases e2; exact (hn _ rfl).elim
           · exact q
           · rename_i e2; cases e2)
    · cases e
  · intro q
    split at q
    · exact q.elim
    · rename_i u' hn h
      (try rw [h])
      cases u' with
      | none => exact ⟨_, _, rfl, q⟩
      | some sv =>
        cases sv with
        | d x => exact ⟨_, _, rfl, q⟩
        | own b ds =>
          cases b with
          | false => exact ⟨_, _, rfl, q⟩
          | true => exact (hn ds rfl).elim
    · exact q.elim
theorem wp_put {i : Nat} {h : List D → Option (List D)} {Q : Unit → En → Prop} : wp (mput i h) ρ Q ↔ putQ ρ[i]? fun b ds => optQ (h ds) fun ds' => Q () (ρ.set i (some (.own b ds'))) := by
  unfold wp mput putQ optQ
  constructor
  · rintro ⟨a, ρ', e, q⟩
    split at e
    · rename_i b ds h1
      split at e
      · rename_i ds' h2
        cases e
        (try rw [h1])
        exact ⟨ds', h2, q⟩
      · cases e
    · cases e
  · intro q
    split at q
    · rename_i b ds h1
      obtain ⟨ds', h2, q⟩ := q
      (try rw [h1])
      simp only [h2]
      exact ⟨_, _, rfl, q⟩
    · exact q.elim
theorem getQ_d {x : D} {P : D → Prop} : getQ (some (some (.d x))) P ↔ P x := Iff.rfl
theorem getQ_own {b : Bool} {x : List D} {P : D → Prop} : getQ (some (some (.own b x))) P ↔ P (.lst x) := Iff.rfl
theorem ownQ_own {b : Bool} {x : List D} {P : List D → Prop} : ownQ (some (some (.own b x))) P ↔ P x := Iff.rfl
theorem valQ_d {x : D} {P : D → Prop} : valQ (some (some (.d x))) P ↔ P x := Iff.rfl
theorem valQ_own {x : List D} {P : D → Prop} : valQ (some (some (.own false x))) P ↔ P (.lst x) := Iff.rfl
theorem valO_own {x : List D} {P : List D → Prop} : valO (some (some (.own false x))) P ↔ P x := Iff.rfl
theorem setQ_d {x : D} {P : Prop} : setQ (some (some (.d x))) P ↔ P := Iff.rfl
theorem setQ_own {x : List D} {P : Prop} : setQ (some (some (.own false x))) P ↔ P := Iff.rfl
theorem setQ_none {P : Prop} : setQ (some none) P ↔ P := Iff.rfl
theorem putQ_own {b : Bool} {x : List D} {P : Bool → List D → Prop} : putQ (some (some (.own b x))) P ↔ P b x := Iff.rfl
/-! operators -/
variable {sem : D → D → Option D} {p q : M D} {i j : Nat} {Q : D → En → Prop}
theorem wp_op2vv : wp (mop2 sem (.val p) (.val q)) ρ Q ↔ wp p ρ fun x ρ1 => wp q ρ1 fun y ρ2 => optQ (sem x y) fun z => Q z ρ2 := by simp only [mop2, wp_bind, wp_opt]
theorem wp_op2sv : wp (mop2 sem (.slot i) (.val q)) ρ Q ↔ getQ ρ[i]? fun _ => wp q ρ fun y ρ2 => getQ ρ2[i]? fun x => optQ (sem x y) fun z => Q z ρ2 := by simp only [mop2, wp_bind, wp_opt, wp_get]
theorem wp_op2vs : wp (mop2 sem (.val p) (.slot j)) ρ Q ↔ wp p ρ fun x ρ1 => getQ ρ1[j]? fun y => optQ (sem x y) fun z => Q z ρ1 := by simp only [mop2, wp_bind, wp_opt, wp_get]
theorem wp_op2ss : wp (mop2 sem (.slot i) (.slot j)) ρ Q ↔ getQ ρ[i]? fun x => getQ ρ[j]? fun y => optQ (sem x y) fun z => Q z ρ := by simp only [mop2, wp_bind, wp_opt, wp_get]
variable {sem1 : D → Option D} {semF : D → D → Option (List D)} {sem1F : D → Option (List D)} {QF : List D → En → Prop}
theorem wp_op1v : wp (mop1 sem1 (.val p)) ρ Q ↔ wp p ρ fun x ρ1 => optQ (sem1 x) fun z => Q z ρ1 := by simp only [mop1, wp_bind, wp_opt]
theorem wp_op1s : wp (mop1 sem1 (.slot i)) ρ Q ↔ getQ ρ[i]? fun x => optQ (sem1 x) fun z => Q z ρ := by simp only [mop1, wp_bind, wp_opt, wp_get]
theorem wp_op2Fvv : wp (mop2F semF (.val p) (.val q)) ρ QF ↔ wp p ρ fun x ρ1 => wp q ρ1 fun y ρ2 => optQ (semF x y) fun z => QF z ρ2 := by simp only [mop2F, wp_bind, wp_opt]
theorem wp_op2Fsv : wp (mop2F semF (.slot i) (.val q)) ρ QF ↔ getQ ρ[i]? fun _ => wp q ρ fun y ρ2 => getQ ρ2[i]? fun x => optQ (semF x y) fun z => QF z ρ2 := by simp only [mop2F, wp_bind, wp_opt, wp_get]
theorem wp_op2Fvs : wp (mop2F semF (.val p) (.slot j)) ρ QF ↔ wp p ρ fun x ρ1 => getQ ρ1[j]? fun y => optQ (semF x y) fun z => QF z ρ1 := by simp only [mop2F, wp_bind, wp_opt, wp_get]
theorem wp_op2Fss : wp (mop2F semF (.slot i) (.slot j)) ρ QF ↔ getQ ρ[i]? fun x => getQ ρ[j]? fun y => optQ (semF x y) fun z => QF z ρ := by simp only [mop2F, wp_bind, wp_opt, wp_get]
theorem wp_op1Fv : wp (mop1F sem1F (.val p)) ρ QF ↔ wp p ρ fun x ρ1 => optQ (sem1F x) fun z => QF z ρ1 := by simp only [mop1F, wp_bind, wp_opt]
theorem wp_op1Fs : wp (mop1F sem1F (.slot i)) ρ QF ↔ getQ ρ[i]? fun x => optQ (sem1F x) fun z => QF z ρ := by simp only [mop1F, wp_bind, wp_opt, wp_get]
variable {c c' : M Bool} {QB : Bool → En → Prop}
theorem wp_bool : wp (mbool p) ρ QB ↔ wp p ρ fun x ρ1 => optQ (toB x) fun b => QB b ρ1 := by simp only [mbool, wp_bind, wp_opt]
theorem wp_truv : wp (mtru (.val p)) ρ QB ↔ wp p ρ fun x ρ1 => optQ (truD x) fun b => QB b ρ1 := by simp only [mtru, wp_bind, wp_opt]
theorem wp_trus : wp (mtru (.slot i)) ρ QB ↔ getQ ρ[i]? fun x => optQ (truD x) fun b => QB b ρ := by simp only [mtru, wp_bind, wp_opt, wp_get]
theorem wp_ite {C : Prop} [Decidable C] {f g : M α} {Q : α → En → Prop} : wp (if C then f else g) ρ Q ↔ if C then wp f ρ Q else wp g ρ Q := by split <;> rfl
theorem wp_and : wp (mand c c') ρ QB ↔ wp c ρ fun b ρ1 => ifQ b (wp c' ρ1 QB) (QB false ρ1) := by simp only [mand, wp_bind, wp_ite, wp_pure, ifQ]
theorem wp_or : wp (mor c c') ρ QB ↔ wp c ρ fun b ρ1 => ifQ b (QB true ρ1) (wp c' ρ1 QB) := by simp only [mor, wp_bind, wp_ite, wp_pure, ifQ]
theorem wp_not : wp (mnot c) ρ QB ↔ wp c ρ fun b ρ1 => QB (!b) ρ1 := by simp only [mnot, wp_bind, wp_pure]
theorem wp_andV : wp (mandV p q) ρ Q ↔ wp p ρ fun x ρ1 => optQ (toB x) fun b => ifQ b (wp q ρ1 Q) (Q (.bl false) ρ1) := by simp only [mandV, wp_bind, wp_opt, wp_ite, wp_pure, ifQ]
theorem wp_orV : wp (morV p q) ρ Q ↔ wp p ρ fun x ρ1 => optQ (toB x) fun b => ifQ b (Q (.bl true) ρ1) (wp q ρ1 Q) := by simp only [morV, wp_bind, wp_opt, wp_ite, wp_pure, ifQ]
theorem wp_notV : wp (mnotV p) ρ Q ↔ wp p ρ fun x ρ1 => optQ (toB x) fun b => Q (.bl (!b)) ρ1 := by simp only [mnotV, wp_bind, wp_opt, wp_pure]
theorem wp_if {f g : M α} {Q : α → En → Prop} : wp (mif c f g) ρ Q ↔ wp c ρ fun b ρ1 => ifQ b (wp f ρ1 Q) (wp g ρ1 Q) := by simp only [mif, wp_bind, wp_ite, ifQ]
variable {fs : M (List D)}
theorem wp_cons : wp (mcons p fs) ρ QF ↔ wp p ρ fun x ρ1 => wp fs ρ1 fun xs ρ2 => QF (x :: xs) ρ2 := by simp only [mcons, wp_bind, wp_pure]
theorem wp_tup : wp (mtup fs) ρ Q ↔ wp fs ρ fun xs ρ1 => xs.length ≤ 1000 ∧ Q (.tup xs) ρ1 := by
  simp only [mtup, wp_bind, wp_ite, wp_pure, wp_bad]
  constructor <;> refine fun h => wp_mono h fun xs ρ1 h => ?_
  · split at h
    · exact ⟨by assumption, h⟩
    · exact h.elim
  · rw [if_pos h.1]; exact h.2
theorem wp_lst : wp (mlst fs) ρ QF ↔ wp fs ρ fun xs ρ1 => xs.length ≤ 1000 ∧ QF xs ρ1 := by
  simp only [mlst, wp_bind, wp_ite, wp_pure, wp_bad]
  constructor <;> refine fun h => wp_mono h fun xs ρ1 h => ?_
  · split at h
    · exact ⟨by assumption, h⟩
    · exact h.elim
  · rw [if_pos h.1]; exact h.2
theorem wp_rng {sm : List D → Option (List D)} : wp (mrng sm fs) ρ QF ↔ wp fs ρ fun xs ρ1 => optQ (sm xs) fun ds => QF ds ρ1 := by simp only [mrng, wp_bind, wp_opt]
theorem wp_items : wp (mitems p) ρ QF ↔ wp p ρ fun x ρ1 => optQ (itemsD x) fun ds => QF ds ρ1 := by simp only [mitems, wp_bind, wp_opt]
theorem wp_rev : wp (mrev p) ρ QF ↔ wp p ρ fun x ρ1 => optQ (itemsD x) fun ds => QF ds.reverse ρ1 := by simp only [mrev, wp_bind, wp_opt, optQ_map]
/-! slices -/
variable {lo hi : M (Option Int)}
theorem wp_cutv : wp (mcut (.val p) lo hi) ρ Q ↔ wp p ρ fun x ρ1 => wp lo ρ1 fun l ρ2 => wp hi ρ2 fun u ρ3 => optQ (cutT x l u) fun z => Q z ρ3 := by simp only [mcut, wp_bind, wp_opt]
theorem wp_cuts : wp (mcut (.slot i) lo hi) ρ Q ↔ getQ ρ[i]? fun _ => wp lo ρ fun l ρ2 => wp hi ρ2 fun u ρ3 => getQ ρ3[i]? fun x => optQ (cutT x l u) fun z => Q z ρ3 := by simp only [mcut, wp_bind, wp_get, wp_opt]
theorem wp_cutLv : wp (mcutL (.val p) lo hi) ρ QF ↔ wp p ρ fun x ρ1 => wp lo ρ1 fun l ρ2 => wp hi ρ2 fun u ρ3 => optQ (cutLL x l u) fun z => QF z ρ3 := by simp only [mcutL, wp_bind, wp_opt]
theorem wp_cutLs : wp (mcutL (.slot i) lo hi) ρ QF ↔ getQ ρ[i]? fun _ => wp lo ρ fun l ρ2 => wp hi ρ2 fun u ρ3 => getQ ρ3[i]? fun x => optQ (cutLL x l u) fun z => QF z ρ3 := by simp only [mcutL, wp_bind, wp_get, wp_opt]
theorem cutT_tup {xs : List D} {l u : Option Int} : cutT (.tup xs) l u = some (.tup (cutG xs l u)) := rfl
theorem cutLL_lst {xs : List D} {l u : Option Int} : cutLL (.lst xs) l u = some (cutG xs l u) := rfl
theorem cutLL_kls {xs : List D} {l u : Option Int} : cutLL (.kls xs) l u = some (cutG xs l u) := rfl
theorem toI_int {n : Int} : toI (.int n) = some n := rfl
/-! statements -/
variable {s k : M Z.Flow} {QS : Z.Flow → En → Prop}
/-- what is wanted behind a statement, where it comes to its end -/
def seqQ (fl : Z.Flow) (P : Prop) (R : Prop) : Prop := match fl with
  | .nx => P
  | _ => R
theorem wp_seq : wp (mseq s k) ρ QS ↔ wp s ρ fun fl ρ1 => seqQ fl (wp k ρ1 QS) (QS fl ρ1) := by
  constructor
  · rintro ⟨fl, ρ', e, q⟩
    unfold mseq at e
    cases es : s ρ with
    | ok fl1 ρ1 =>
      rw [es] at e
      refine ⟨fl1, ρ1, es, ?_⟩
      cases fl1 with
      | nx => exact ⟨fl, ρ', e, q⟩
      | bk => cases e; exact q
      | ct => cases e; exact q
      | rt x => cases e; exact q
      | rf x => cases e; exact q
    | exc x ρ1 => rw [es] at e; cases e
    | bad => rw [es] at e; cases e
  · rintro ⟨fl, ρ1, es, q⟩
    cases fl with
    | nx =>
      obtain ⟨fl, ρ', e, q⟩ := q
      exact ⟨fl, ρ', by unfold mseq; rw [es]; exact e, q⟩
    | bk => exact ⟨_, _, by unfold mseq; rw [es], q⟩
    | ct => exact ⟨_, _, by unfold mseq; rw [es], q⟩
    | rt x => exact ⟨_, _, by unfold mseq; rw [es], q⟩
    | rf x => exact ⟨_, _, by unfold mseq; rw [es], q⟩
theorem seqQ_nx {P R : Prop} : seqQ .nx P R ↔ P := Iff.rfl
theorem seqQ_rt {x : D} {P R : Prop} : seqQ (.rt x) P R ↔ R := Iff.rfl
theorem seqQ_rf {x : List D} {P R : Prop} : seqQ (.rf x) P R ↔ R := Iff.rfl
theorem seqQ_bk {P R : Prop} : seqQ .bk P R ↔ R := Iff.rfl
theorem seqQ_ct {P R : Prop} : seqQ .ct P R ↔ R := Iff.rfl
theorem wp_nx : wp mnx ρ QS ↔ QS .nx ρ := wp_pure
theorem wp_do : wp (mdo f) ρ QS ↔ wp f ρ fun _ ρ1 => QS .nx ρ1 := by simp only [mdo, wp_bind, wp_pure]
theorem wp_ret : wp (mret p) ρ QS ↔ wp p ρ fun x ρ1 => QS (.rt x) ρ1 := by simp only [mret, wp_bind, wp_pure]
theorem wp_retF : wp (mretF fs) ρ QS ↔ wp fs ρ fun x ρ1 => QS (.rf x) ρ1 := by simp only [mretF, wp_bind, wp_pure]
theorem wp_retO : wp (mretO i) ρ QS ↔ valO ρ[i]? fun ds => QS (.rf ds) (ρ.set i none) := by
  unfold wp mretO valO
  constructor
  · rintro ⟨a, ρ', e, q⟩
    split at e
    · rename_i ds h; cases e; (try rw [h]); exact q
    · cases e
  · intro q
    split at q
    · rename_i ds h; (try rw [h]); exact ⟨_, _, rfl, q⟩
    · exact q.elim
theorem wp_set : wp (mset i p) ρ QS ↔ wp p ρ fun x ρ1 => setQ ρ1[i]? (QS .nx (ρ1.set i (some (.d x)))) := by simp only [mset, wp_bind, wp_store]
theorem wp_setF : wp (msetF i fs) ρ QS ↔ wp fs ρ fun x ρ1 => setQ ρ1[i]? (QS .nx (ρ1.set i (some (.own false x)))) := by simp only [msetF, wp_bind, wp_store]
theorem wp_ifS : wp (mifS c s k) ρ QS ↔ wp c ρ fun b ρ1 => ifQ b (wp s ρ1 QS) (wp k ρ1 QS) := by simp only [mifS, wp_bind, wp_ite, ifQ]
theorem wp_setIx : wp (msetIx i p q) ρ QS ↔ wp q ρ fun x ρ1 => ownQ ρ1[i]? fun _ => wp p ρ1 fun y ρ2 => ownQ ρ2[i]? fun ds => optQ (setIxD ds y x) fun ds' => putQ ρ2[i]? fun b _ => QS .nx (ρ2.set i (some (.own b ds'))) := by
  simp only [msetIx, wp_do, wp_bind, wp_own, wp_opt, wp_put, wp_pure, optQ_some]
variable {sm1 : List D → D → Option (D × List D)} {sm0 : List D → Option (D × List D)}
theorem wp_meth1 : wp (mmeth1 i sm1 p) ρ Q ↔ ownQ ρ[i]? fun _ => wp p ρ fun x ρ1 => ownQ ρ1[i]? fun ds => optQ (sm1 ds x) fun z => putQ ρ1[i]? fun b _ => Q z.1 (ρ1.set i (some (.own b z.2))) := by
  simp only [mmeth1, wp_bind, wp_own, wp_opt, wp_put, wp_pure, optQ_some]
theorem wp_meth0 : wp (mmeth0 i sm0) ρ Q ↔ ownQ ρ[i]? fun ds => optQ (sm0 ds) fun z => putQ ρ[i]? fun b _ => Q z.1 (ρ.set i (some (.own b z.2))) := by
  simp only [mmeth0, wp_bind, wp_own, wp_opt, wp_put, wp_pure, optQ_some]
/-- a target stored, then .. -/
theorem wp_asg {t : D → M Unit} : wp (masg p t) ρ QS ↔ wp p ρ fun x ρ1 => wp (t x) ρ1 fun _ ρ2 => QS .nx ρ2 := by
  simp only [masg, wp_bind]
  constructor <;> refine fun h => wp_mono h fun x ρ1 h => ?_
  · obtain ⟨fl, ρ2, e, q⟩ := h
    simp only at e
    cases et : t x ρ1 with
    | ok u ρ3 => rw [et] at e; cases e; exact ⟨_, _, et, q⟩
    | exc u ρ3 => rw [et] at e; cases e
    | bad => rw [et] at e; cases e
  · obtain ⟨u, ρ2, e, q⟩ := h
    exact ⟨.nx, ρ2, by simp only [e], q⟩
theorem wp_gnil {Qu : Unit → En → Prop} : wp (gnil []) ρ Qu ↔ Qu () ρ := wp_pure
theorem wp_gcons {t : D → M Unit} {u : List D → M Unit} {x : D} {r : List D} {Qu : Unit → En → Prop} : wp (gcons t u (x :: r)) ρ Qu ↔ wp (t x) ρ fun _ ρ1 => wp (u r) ρ1 Qu := by simp only [gcons, wp_bind]
theorem wp_gtup {n : Nat} {t : List D → M Unit} {xs : List D} {Qu : Unit → En → Prop} : wp (gtup n t (.tup xs)) ρ Qu ↔ xs.length = n ∧ wp (t xs) ρ Qu := by
  simp only [gtup, wp_ite, wp_bad]
  constructor
  · intro h; split at h
    · exact ⟨by assumption, h⟩
    · exact h.elim
  · rintro ⟨h1, h2⟩; rw [if_pos h1]; exact h2
/-! loops -/
variable {t : D → M Unit} {b : M Z.Flow}
/-- behind a turn -/
def turnQ (fl : Z.Flow) (P : Prop) (B : Prop) (R : Prop) : Prop := match fl with
  | .nx => P
  | .ct => P
  | .bk => B
  | _ => R
theorem wp_forS : wp (mforS fs t b) ρ QS ↔ wp fs ρ fun ds ρ1 => wp (mfor t b ds) ρ1 QS := by simp only [mforS, wp_bind]
theorem wp_for_nil : wp (mfor t b []) ρ QS ↔ QS .nx ρ := wp_pure
theorem wp_for_cons {x : D} {r : List D} : wp (mfor t b (x :: r)) ρ QS ↔ wp (t x) ρ fun _ ρ1 => wp b ρ1 fun fl ρ2 => turnQ fl (wp (mfor t b r) ρ2 QS) (QS .nx ρ2) (QS fl ρ2) := by
  constructor
  · rintro ⟨fl, ρ', e, q⟩
    unfold mfor at e
    cases et : t x ρ with
    | bad => rw [et] at e; cases e
    | exc z ρ1 => rw [et] at e; cases e
    | ok u ρ1 =>
      rw [et] at e
      refine ⟨u, ρ1, et, ?_⟩
      simp only at e
      cases eb : b ρ1 with
      | bad => rw [eb] at e; cases e
      | exc z ρ2 => rw [eb] at e; cases e
      | ok fl2 ρ2 =>
        rw [eb] at e
        refine ⟨fl2, ρ2, eb, ?_⟩
        cases fl2 with
        | nx => exact ⟨fl, ρ', e, q⟩
        | ct => exact ⟨fl, ρ', e, q⟩
        | bk => cases e; exact q
        | rt z => cases e; exact q
        | rf z => cases e; exact q
  · rintro ⟨u, ρ1, et, fl, ρ2, eb, q⟩
    cases fl with
    | nx => obtain ⟨fl, ρ', e, q⟩ := q; exact ⟨fl, ρ', by unfold mfor; rw [et]; simp only [eb]; exact e, q⟩
    | ct => obtain ⟨fl, ρ', e, q⟩ := q; exact ⟨fl, ρ', by unfold mfor; rw [et]; simp only [eb]; exact e, q⟩
    | bk => exact ⟨_, _, by unfold mfor; rw [et]; simp only [eb], q⟩
    | rt z => exact ⟨_, _, by unfold mfor; rw [et]; simp only [eb], q⟩
    | rf z => exact ⟨_, _, by unfold mfor; rw [et]; simp only [eb], q⟩
/-- an invariant over what is done and what is left -/
theorem wp_for (I : List D → List D → En → Prop) (ds : List D) (h0 : I [] ds ρ)
    (hs : ∀ pre x post ρ, ds = pre ++ x :: post → I pre (x :: post) ρ → wp (t x) ρ fun _ ρ1 => wp b ρ1 fun fl ρ2 => turnQ fl (I (pre ++ [x]) post ρ2) (QS .nx ρ2) (QS fl ρ2))
    (hd : ∀ ρ, I ds [] ρ → QS .nx ρ) : wp (mfor t b ds) ρ QS := by
  have key : ∀ (post pre : List D) (ρ : En), ds = pre ++ post → I pre post ρ → wp (mfor t b post) ρ QS := by
    intro post
    induction post with
    | nil => intro pre ρ e h; rw [List.append_nil] at e; subst e; exact wp_for_nil.mpr (hd ρ h)
    | cons x post ih =>
      intro pre ρ e h
      refine wp_for_cons.mpr (wp_mono (hs pre x post ρ e h) fun _ ρ1 h1 => wp_mono h1 fun fl ρ2 h2 => ?_)
      have e' : ds = (pre ++ [x]) ++ post := by rw [e]; simp
      cases fl with
      | nx => exact ih _ ρ2 e' h2
      | ct => exact ih _ ρ2 e' h2
      | bk => exact h2
      | rt z => exact h2
      | rf z => exact h2
  exact key ds [] ρ rfl h0
theorem turnQ_nx {P B R : Prop} : turnQ .nx P B R ↔ P := Iff.rfl
theorem turnQ_ct {P B R : Prop} : turnQ .ct P B R ↔ P := Iff.rfl
theorem turnQ_bk {P B R : Prop} : turnQ .bk P B R ↔ B := Iff.rfl
theorem turnQ_rt {x : D} {P B R : Prop} : turnQ (.rt x) P B R ↔ R := Iff.rfl
theorem turnQ_rf {x : List D} {P B R : Prop} : turnQ (.rf x) P B R ↔ R := Iff.rfl
theorem wp_while_succ {n : Nat} : wp (mwhile c b (n + 1)) ρ QS ↔ wp c ρ fun cc ρ1 => ifQ cc (wp b ρ1 fun fl ρ2 => turnQ fl (wp (mwhile c b n) ρ2 QS) (QS .nx ρ2) (QS fl ρ2)) (QS .nx ρ1) := by
  unfold ifQ
  have e0 : mwhile c b (n + 1) = mbind c fun cc => if cc = true then fun ρ => match b ρ with
      | .ok .nx ρ2 => mwhile c b n ρ2
      | .ok .ct ρ2 => mwhile c b n ρ2
      | .ok .bk ρ2 => .ok .nx ρ2
      | o => o
    else mnx := rfl
  rw [e0, wp_bind]
  constructor <;> refine fun h => wp_mono h fun cc ρ1 h => ?_
  · cases cc with
    | false => exact wp_nx.mp h
    | true =>
      rw [if_pos rfl]
      obtain ⟨fl, ρ', e, q⟩ := h
      simp only [if_true] at e
      cases eb : b ρ1 with
      | bad => rw [eb] at e; cases e
      | exc z ρ2 => rw [eb] at e; cases e
      | ok fl2 ρ2 =>
        rw [eb] at e
        refine ⟨fl2, ρ2, eb, ?_⟩
        cases fl2 with
        | nx => exact ⟨fl, ρ', e, q⟩
        | ct => exact ⟨fl, ρ', e, q⟩
        | bk => cases e; exact q
        | rt z => cases e; exact q
        | rf z => cases e; exact q
  · cases cc with
    | false => exact wp_nx.mpr h
    | true =>
      rw [if_pos rfl] at h
      obtain ⟨fl, ρ2, eb, q⟩ := h
      cases fl with
      | nx => obtain ⟨fl, ρ', e, q⟩ := q; exact ⟨fl, ρ', by simp only [if_true, eb]; exact e, q⟩
      | ct => obtain ⟨fl, ρ', e, q⟩ := q; exact ⟨fl, ρ', by simp only [if_true, eb]; exact e, q⟩
      | bk => exact ⟨_, _, by simp only [if_true, eb], q⟩
      | rt z => exact ⟨_, _, by simp only [if_true, eb], q⟩
      | rf z => exact ⟨_, _, by simp only [if_true, eb], q⟩
/-- a while by an invariant and a measure -/
theorem wp_while (I : Nat → En → Prop) {n m : Nat} (hm : m < n) (h0 : I m ρ)
    (hs : ∀ m ρ, I m ρ → wp c ρ fun cc ρ1 => ifQ cc (wp b ρ1 fun fl ρ2 => turnQ fl (∃ m', m' < m ∧ I m' ρ2) (QS .nx ρ2) (QS fl ρ2)) (QS .nx ρ1)) : wp (mwhile c b n) ρ QS := by
  induction n generalizing m ρ with
  | zero => omega
  | succ n ih =>
    refine wp_while_succ.mpr (wp_mono (hs m ρ h0) fun cc ρ1 h => ?_)
    cases cc with
    | false => exact h
    | true =>
      rw [ifQ_t] at h ⊢
      refine wp_mono h fun fl ρ2 h2 => ?_
      cases fl with
      | nx => obtain ⟨m', h3, h4⟩ := h2; exact ih (m := m') (by omega) h4
      | ct => obtain ⟨m', h3, h4⟩ := h2; exact ih (m := m') (by omega) h4
      | bk => exact h2
      | rt z => exact h2
      | rf z => exact h2
/-! calls -/
variable {m : Fn} {args : List Arg} {Qa : List SV → En → Prop}
theorem wp_args_nil : wp (margs []) ρ Qa ↔ Qa [] ρ := wp_pure
theorem wp_args_d {r : List Arg} : wp (margs (.d p :: r)) ρ Qa ↔ wp p ρ fun x ρ1 => wp (margs r) ρ1 fun xs ρ2 => Qa (.d x :: xs) ρ2 := by simp only [margs, wp_bind, wp_pure]
theorem wp_args_tmp {r : List Arg} : wp (margs (.tmp fs :: r)) ρ Qa ↔ wp fs ρ fun x ρ1 => wp (margs r) ρ1 fun xs ρ2 => Qa (.own true x :: xs) ρ2 := by simp only [margs, wp_bind, wp_pure]
theorem wp_args_io {r : List Arg} : wp (margs (.io j :: r)) ρ Qa ↔ ownQ ρ[j]? fun _ => wp (margs r) ρ fun xs ρ2 => ownQ ρ2[j]? fun ds => Qa (.own true ds :: xs) ρ2 := by simp only [margs, wp_bind, wp_own, wp_pure]
def rvD (x : RV) (P : D → Prop) : Prop := match x with
  | .d x => P x
  | _ => False
def rvF (x : RV) (P : List D → Prop) : Prop := match x with
  | .fresh x => P x
  | _ => False
theorem rvD_d {x : D} {P : D → Prop} : rvD (.d x) P ↔ P x := Iff.rfl
theorem rvF_f {x : List D} {P : List D → Prop} : rvF (.fresh x) P ↔ P x := Iff.rfl
theorem wp_call : wp (mcall m args) ρ Q ↔ wp (margs args) ρ fun svs ρ1 => fwp m svs fun rv outs => rvD rv fun x => optQ (wback args outs ρ1) fun ρ2 => Q x ρ2 := by
  simp only [mcall, wp_bind]
  constructor <;> refine fun h => wp_mono h fun svs ρ1 h => ?_
  · obtain ⟨x, ρ2, e, q⟩ := h
    cases em : m svs with
    | bad => rw [em] at e; cases e
    | exc z outs => rw [em] at e; simp only at e; split at e <;> cases e
    | ok rv outs =>
      rw [em] at e
      refine ⟨rv, outs, em, ?_⟩
      cases rv with
      | fresh ds => cases e
      | d y =>
        simp only at e
        cases ew : wback args outs ρ1 with
        | none => rw [ew] at e; cases e
        | some ρ3 => rw [ew] at e; cases e; exact ⟨_, rfl, q⟩
  · obtain ⟨rv, outs, em, h⟩ := h
    cases rv with
    | fresh ds => exact h.elim
    | d y =>
      obtain ⟨ρ2, ew, q⟩ := h
      exact ⟨y, ρ2, by simp only [em, ew], q⟩
theorem wp_callF : wp (mcallF m args) ρ QF ↔ wp (margs args) ρ fun svs ρ1 => fwp m svs fun rv outs => rvF rv fun x => optQ (wback args outs ρ1) fun ρ2 => QF x ρ2 := by
  simp only [mcallF, wp_bind]
  constructor <;> refine fun h => wp_mono h fun svs ρ1 h => ?_
  · obtain ⟨x, ρ2, e, q⟩ := h
    cases em : m svs with
    | bad => rw [em] at e; cases e
    | exc z outs => rw [em] at e; simp only at e; split at e <;> cases e
    | ok rv outs =>
      rw [em] at e
      refine ⟨rv, outs, em, ?_⟩
      cases rv with
      | d y => cases e
      | fresh ds =>
        simp only at e
        cases ew : wback args outs ρ1 with
        | none => rw [ew] at e; cases e
        | some ρ3 => rw [ew] at e; cases e; exact ⟨_, rfl, q⟩
  · obtain ⟨rv, outs, em, h⟩ := h
    cases rv with
    | d y => exact h.elim
    | fresh ds =>
      obtain ⟨ρ2, ew, q⟩ := h
      exact ⟨ds, ρ2, by simp only [em, ew], q⟩
def endQ (fl : Z.Flow) (P : RV → Prop) : Prop := match fl with
  | .nx => P (.d .non)
  | .rt x => P (.d x)
  | .rf ds => P (.fresh ds)
  | _ => False
theorem endQ_nx {P : RV → Prop} : endQ .nx P ↔ P (.d .non) := Iff.rfl
theorem endQ_rt {x : D} {P : RV → Prop} : endQ (.rt x) P ↔ P (.d x) := Iff.rfl
theorem endQ_rf {x : List D} {P : RV → Prop} : endQ (.rf x) P ↔ P (.fresh x) := Iff.rfl
theorem fwp_run {n : Nat} {as : List SV} {Qf : RV → En → Prop} : fwp (runBody n b) as Qf ↔ wp b (as.map some ++ List.replicate (n - as.length) none) fun fl ρ => endQ fl fun x => Qf x (ρ.take as.length) := by
  constructor
  · rintro ⟨x, outs, e, q⟩
    unfold runBody at e
    split at e <;> cases e
    · rename_i eb; exact ⟨_, _, eb, q⟩
    · rename_i eb; exact ⟨_, _, eb, q⟩
    · rename_i eb; exact ⟨_, _, eb, q⟩
  · rintro ⟨fl, ρ, eb, q⟩
    cases fl with
    | nx => exact ⟨_, _, by unfold runBody; rw [eb], q⟩
    | rt z => exact ⟨_, _, by unfold runBody; rw [eb], q⟩
    | rf z => exact ⟨_, _, by unfold runBody; rw [eb], q⟩
    | bk => exact q.elim
    | ct => exact q.elim
end
/-! the answers of operators -/
theorem add_int {i j : Int} : addD (.int i) (.int j) = some (.int (i + j)) := rfl
theorem add_tup {i j : List D} (h : i.length + j.length ≤ sizeLine) : addD (.tup i) (.tup j) = some (.tup (i ++ j)) := by simp only [addD]; rw [if_pos h]
theorem add_str {i j : Str} (h : i.length + j.length ≤ sizeLine) : addD (.str i) (.str j) = some (.str (i ++ j)) := by simp only [addD]; rw [if_pos h]
theorem sub_int {i j : Int} : subD (.int i) (.int j) = some (.int (i - j)) := rfl
theorem mul_l {i j : Int} (h1 : -18446744073709551616 < i) (h2 : i < 18446744073709551616) : mulD (.int i) (.int j) = some (.int (i * j)) := by
  have : mulOk i j = true := by simp only [mulOk, Bool.or_eq_true, Bool.and_eq_true, decide_eq_true_eq]; left; constructor <;> omega
  simp only [mulD, this, if_true]
theorem mul_r {i j : Int} (h1 : -18446744073709551616 < j) (h2 : j < 18446744073709551616) : mulD (.int i) (.int j) = some (.int (i * j)) := by
  have : mulOk i j = true := by simp only [mulOk, Bool.or_eq_true, Bool.and_eq_true, decide_eq_true_eq]; right; constructor <;> omega
  simp only [mulD, this, if_true]
theorem div_int {i j : Int} (h : 0 < j) (h2 : j < 1073741824) : divD (.int i) (.int j) = some (.int (i / j)) := by simp only [divD]; rw [if_pos ⟨h, h2⟩]
theorem mod_int {i j : Int} (h : 0 < j) : modD (.int i) (.int j) = some (.int (i % j)) := by simp only [modD]; rw [if_pos h]
theorem shr_int {i j : Int} (h : 0 ≤ j) : shrD (.int i) (.int j) = some (.int (i / 2 ^ j.toNat)) := by simp only [shrD]; rw [if_pos h]
theorem shl_int {i j : Int} (h : 0 ≤ j) (h1 : j ≤ 1000000) (h2 : i.natAbs < 18446744073709551616) : shlD (.int i) (.int j) = some (.int (i * 2 ^ j.toNat)) := by
  have : powOk i j = true := by simp only [powOk, Bool.and_eq_true, decide_eq_true_eq]; refine ⟨⟨h, h1⟩, ?_⟩; omega
  simp only [shlD, this, if_true]
theorem pow_int {i j : Int} (h : 0 ≤ j) (h1 : j ≤ 1000000) (h2 : i.natAbs < 18446744073709551616) : powD (.int i) (.int j) = some (.int (i ^ j.toNat)) := by
  have : powOk i j = true := by simp only [powOk, Bool.and_eq_true, decide_eq_true_eq]; refine ⟨⟨h, h1⟩, ?_⟩; omega
  simp only [powD, this, if_true]
theorem and_int {i j : Int} : andD (.int i) (.int j) = some (.int (Builtin.bitAnd i j)) := rfl
theorem or_int {i j : Int} : orD (.int i) (.int j) = some (.int (Builtin.bitOr i j)) := rfl
theorem xor_int {i j : Int} : xorD (.int i) (.int j) = some (.int (Builtin.bitXor i j)) := rfl
theorem neg_int {i : Int} : negD (.int i) = some (.int (-i)) := rfl
theorem eq_int {i j : Int} : eqD (.int i) (.int j) = some (.bl (decide (i = j))) := rfl
theorem eq_str {i j : Str} : eqD (.str i) (.str j) = some (.bl (decide (i = j))) := rfl
theorem eq_bl {i j : Bool} : eqD (.bl i) (.bl j) = some (.bl (decide (i = j))) := rfl
theorem ne_int {i j : Int} : neD (.int i) (.int j) = some (.bl (!decide (i = j))) := rfl
theorem ne_str {i j : Str} : neD (.str i) (.str j) = some (.bl (!decide (i = j))) := rfl
theorem ne_bl {i j : Bool} : neD (.bl i) (.bl j) = some (.bl (!decide (i = j))) := rfl
theorem lt_int {i j : Int} : ltD (.int i) (.int j) = some (.bl (decide (i < j))) := rfl
theorem le_int {i j : Int} : leD (.int i) (.int j) = some (.bl (decide (i ≤ j))) := rfl
theorem gt_int {i j : Int} : gtD (.int i) (.int j) = some (.bl (decide (j < i))) := rfl
theorem ge_int {i j : Int} : geD (.int i) (.int j) = some (.bl (decide (j ≤ i))) := rfl
theorem isN {x : D} : isND x .non = some (.bl (isNonD x)) := by cases x <;> rfl
theorem notN {x : D} : notND x .non = some (.bl (!isNonD x)) := by cases x <;> rfl
theorem toB_bl {b : Bool} : toB (.bl b) = some b := rfl
theorem len_tup {xs : List D} : lenD (.tup xs) = some (.int xs.length) := rfl
theorem len_lst {xs : List D} : lenD (.lst xs) = some (.int xs.length) := rfl
theorem len_kls {xs : List D} : lenD (.kls xs) = some (.int xs.length) := rfl
theorem int_int {i : Int} : intD (.int i) = some (.int i) := rfl
theorem int_bl {b : Bool} : intD (.bl b) = some (.int (if b then 1 else 0)) := rfl
theorem tuple_lst {xs : List D} : tupleD (.lst xs) = some (.tup xs) := rfl
theorem tuple_tup {xs : List D} : tupleD (.tup xs) = some (.tup xs) := rfl
theorem list_lst {xs : List D} : listD (.lst xs) = some xs := rfl
theorem list_tup {xs : List D} : listD (.tup xs) = some xs := rfl
theorem max2_int {i j : Int} : max2D (.int i) (.int j) = some (.int (max i j)) := by simp only [max2D]; congr 2; split <;> omega
theorem min2_int {i j : Int} : min2D (.int i) (.int j) = some (.int (min i j)) := by simp only [min2D]; congr 2; split <;> omega
theorem abs_int {i : Int} : absD (.int i) = some (.int (if i < 0 then -i else i)) := rfl
theorem idx_tup {xs : List D} {i : Int} : idxD (.tup xs) (.int i) = atI xs i := rfl
theorem idx_lst {xs : List D} {i : Int} : idxD (.lst xs) (.int i) = atI xs i := rfl
theorem idx_kls {xs : List D} {i : Int} : idxD (.kls xs) (.int i) = atI xs i := rfl
theorem isi_ {t : Ty} {x : D} : isiD t x = some (.bl (isB t x)) := rfl
theorem isi2_ {t u : Ty} {x : D} : isi2D t u x = some (.bl (isB t x || isB u x)) := rfl
theorem app_ {ds : List D} {x : D} (h : ds.length < 16777216) : appD ds x = some (.non, ds ++ [x]) := by simp only [appD]; rw [if_pos (by rw [sizeLine_eq]; exact h)]
theorem rng1_ {n : Int} (h : -4611686018427387904 ≤ n) (h2 : n < 4611686018427387904) : rng1 [.int n] = some (rangeL 0 n.toNat) := by simp only [rng1]; rw [if_pos ⟨by omega, by omega⟩]
theorem rng2_ {a n : Int} (h0 : -4611686018427387904 ≤ a) (h1 : a < 4611686018427387904) (h : -4611686018427387904 ≤ n) (h2 : n < 4611686018427387904) : rng2 [.int a, .int n] = some (rangeL a (n - a).toNat) := by simp only [rng2]; rw [if_pos ⟨by omega, by omega, by omega, by omega⟩]
theorem atI_of {α : Type} {xs : List α} {i : Int} {x : α} (h0 : 0 ≤ i) (h : xs[i.toNat]? = some x) : atI xs i = some x := by
  have e : i = ((i.toNat : Nat) : Int) := by omega
  rw [e]; exact atI_nat h
theorem atI_lt {α : Type} {xs : List α} {i : Int} (h0 : 0 ≤ i) (h : i < xs.length) : ∃ x, atI xs i = some x ∧ xs[i.toNat]? = some x := by
  have hi : i.toNat < xs.length := by omega
  exact ⟨xs[i.toNat], atI_of h0 (List.getElem?_eq_getElem hi), List.getElem?_eq_getElem hi⟩
theorem catL_ {xs ys : List D} (h : xs.length + ys.length ≤ 16777216) : catL (.lst xs) (.lst ys) = some (xs ++ ys) := by simp only [catL]; rw [if_pos (by rw [sizeLine_eq]; exact h)]
end Z
namespace Z
open PySem L2
theorem atI_0 {α : Type} {a : α} {l : List α} : atI (a :: l) 0 = some a := atI_of (by omega) rfl
theorem atI_1 {α : Type} {a b : α} {l : List α} : atI (a :: b :: l) 1 = some b := atI_of (by omega) rfl
theorem atI_2 {α : Type} {a b c : α} {l : List α} : atI (a :: b :: c :: l) 2 = some c := atI_of (by omega) rfl
theorem atI_3 {α : Type} {a b c d : α} {l : List α} : atI (a :: b :: c :: d :: l) 3 = some d := atI_of (by omega) rfl
theorem atI_4 {α : Type} {a b c d e : α} {l : List α} : atI (a :: b :: c :: d :: e :: l) 4 = some e := atI_of (by omega) rfl
theorem ixN_of {n : Nat} {i : Int} (h0 : 0 ≤ i) (h : i < n) : ixN n i = some i.toNat := by unfold ixN; rw [if_pos h0, if_pos h]
theorem setIx_0 {a x : D} {l : List D} : setIxD (a :: l) (.int 0) x = some (x :: l) := by
  simp only [setIxD, List.length_cons]; rw [ixN_of (by omega) (by omega)]; rfl
theorem setIx_1 {a b x : D} {l : List D} : setIxD (a :: b :: l) (.int 1) x = some (a :: x :: l) := by
  simp only [setIxD, List.length_cons]; rw [ixN_of (by omega) (by omega)]; rfl
theorem setIx_2 {a b c x : D} {l : List D} : setIxD (a :: b :: c :: l) (.int 2) x = some (a :: b :: x :: l) := by
  simp only [setIxD, List.length_cons]; rw [ixN_of (by omega) (by omega)]; rfl
end Z
namespace Z
open PySem L2
/-! statement by statement: what comes behind is a letter meanwhile -/
theorem sq {s k : M Z.Flow} {ρ : En} {QS : Z.Flow → En → Prop} (h : ∀ K : Z.Flow → En → Prop, (∀ fl ρ1, seqQ fl (wp k ρ1 QS) (QS fl ρ1) → K fl ρ1) → wp s ρ K) : wp (mseq s k) ρ QS :=
  wp_seq.mpr (h _ fun _ _ h => h)
/-- any run -/
theorem ltr {α : Type} {f : M α} {ρ : En} {Q : α → En → Prop} (h : ∀ K : α → En → Prop, (∀ a ρ1, Q a ρ1 → K a ρ1) → wp f ρ K) : wp f ρ Q := h _ fun _ _ h => h
/-! comprehensions -/
section
variable {ρ : En} {vs : List Nat} {fs : M (List D)} {t : D → M Unit} {c : M Bool} {g : M D} {QF : List D → En → Prop}
theorem wp_comp : wp (mcomp vs fs t c g) ρ QF ↔ wp fs ρ fun ds ρ1 => vs.all (free1 ρ1) = true ∧ wp (cloop t c g vs ds []) (clr ρ1 vs) fun acc ρ2 => QF acc (rst ρ1 ρ2 vs) := by
  simp only [mcomp, wp_bind]
  constructor <;> refine fun h => wp_mono h fun ds ρ1 h => ?_
  · obtain ⟨acc, ρ2, e, q⟩ := h
    simp only at e
    split at e
    · rename_i hf
      refine ⟨hf, ?_⟩
      cases er : cloop t c g vs ds [] (clr ρ1 vs) with
      | bad => rw [er] at e; cases e
      | exc z ρ3 => rw [er] at e; cases e
      | ok a ρ3 => rw [er] at e; cases e; exact ⟨_, _, er, q⟩
    · cases e
  · obtain ⟨hf, acc, ρ2, er, q⟩ := h
    exact ⟨acc, rst ρ1 ρ2 vs, by simp only [hf, if_true, er], q⟩
theorem wp_cloop_nil {acc : List D} : wp (cloop t c g vs [] acc) ρ QF ↔ QF acc ρ := wp_pure
theorem wp_cloop_cons {x : D} {r acc : List D} (hl : acc.length < 16777216) : wp (cloop t c g vs (x :: r) acc) ρ QF ↔ wp (t x) ρ fun _ ρ1 => wp c ρ1 fun b ρ2 => ifQ b (wp g ρ2 fun y ρ3 => wp (cloop t c g vs r (acc ++ [y])) (clr ρ3 vs) QF) (wp (cloop t c g vs r acc) (clr ρ2 vs) QF) := by
  unfold ifQ
  have hl : acc.length < sizeLine := by rw [sizeLine_eq]; exact hl
  constructor
  · rintro ⟨res, ρ', e, q⟩
    unfold cloop at e
    cases et : t x ρ with
    | bad => rw [et] at e; cases e
    | exc z ρ1 => rw [et] at e; cases e
    | ok u ρ1 =>
      rw [et] at e
      simp only at e
      refine ⟨u, ρ1, et, ?_⟩
      cases ec : c ρ1 with
      | bad => rw [ec] at e; cases e
      | exc z ρ2 => rw [ec] at e; cases e
      | ok b ρ2 =>
        rw [ec] at e
        refine ⟨b, ρ2, ec, ?_⟩
        cases b with
        | false => rw [if_neg (by decide)]; exact ⟨res, ρ', e, q⟩
        | true =>
          rw [if_pos rfl]
          simp only at e
          cases eg : g ρ2 with
          | bad => rw [eg] at e; cases e
          | exc z ρ3 => rw [eg] at e; cases e
          | ok y ρ3 =>
            rw [eg] at e
            simp only at e
            rw [if_pos hl] at e
            exact ⟨y, ρ3, eg, res, ρ', e, q⟩
  · rintro ⟨u, ρ1, et, b, ρ2, ec, h⟩
    cases b with
    | false =>
      rw [if_neg (by decide)] at h
      obtain ⟨res, ρ', e, q⟩ := h
      exact ⟨res, ρ', by unfold cloop; simp only [et, ec]; exact e, q⟩
    | true =>
      rw [if_pos rfl] at h
      obtain ⟨y, ρ3, eg, res, ρ', e, q⟩ := h
      exact ⟨res, ρ', by unfold cloop; simp only [et, ec, eg]; rw [if_pos hl]; exact e, q⟩
/-- an invariant -/
theorem wp_cloop (I : List D → List D → List D → En → Prop) (ds : List D) (hn : ds.length ≤ 16777216) (h0 : I [] ds [] ρ) (hl : ∀ pre post acc ρ, I pre post acc ρ → acc.length ≤ pre.length)
    (hs : ∀ pre x post acc ρ, ds = pre ++ x :: post → I pre (x :: post) acc ρ → wp (t x) ρ fun _ ρ1 => wp c ρ1 fun b ρ2 => ifQ b (wp g ρ2 fun y ρ3 => I (pre ++ [x]) post (acc ++ [y]) (clr ρ3 vs)) (I (pre ++ [x]) post acc (clr ρ2 vs)))
    (hd : ∀ acc ρ, I ds [] acc ρ → QF acc ρ) : wp (cloop t c g vs ds []) ρ QF := by
  have key : ∀ (post pre acc : List D) (ρ : En), ds = pre ++ post → I pre post acc ρ → wp (cloop t c g vs post acc) ρ QF := by
    intro post
    induction post with
    | nil => intro pre acc ρ e h; rw [List.append_nil] at e; subst e; exact wp_cloop_nil.mpr (hd acc ρ h)
    | cons x post ih =>
      intro pre acc ρ e h
      have e' : ds = (pre ++ [x]) ++ post := by rw [e]; simp
      have hz := hl _ _ _ _ h
      have : ds.length = pre.length + (post.length + 1) := by rw [e]; simp
      refine (wp_cloop_cons (by omega)).mpr (wp_mono (hs pre x post acc ρ e h) fun _ ρ1 h1 => wp_mono h1 fun b ρ2 h2 => ?_)
      cases b with
      | false => rw [ifQ_f] at h2 ⊢; exact ih _ _ _ e' h2
      | true => rw [ifQ_t] at h2 ⊢; exact wp_mono h2 fun y ρ3 h3 => ih _ _ _ e' h3
  exact key ds [] [] ρ rfl h0
/-- elements that leave the frame as it is: a map behind a filter -/
theorem wp_cloop_map {α : Type} (e : α → D) (b : α → Bool) (v : α → D) (xs : List α) (hn : xs.length ≤ 16777216)
    (h : ∀ x ∈ xs, wp (t (e x)) ρ fun _ ρ1 => wp c ρ1 fun bb ρ2 => bb = b x ∧ ifQ (b x) (wp g ρ2 fun y ρ3 => y = v x ∧ clr ρ3 vs = ρ) (clr ρ2 vs = ρ))
    (q : QF ((xs.filter b).map v) ρ) : wp (cloop t c g vs (xs.map e) []) ρ QF := by
  have key : ∀ (post : List α) (acc : List D), (∀ x ∈ post, x ∈ xs) → acc.length + post.length ≤ 16777216 → QF (acc ++ (post.filter b).map v) ρ → wp (cloop t c g vs (post.map e) acc) ρ QF := by
    intro post
    induction post with
    | nil => intro acc _ _ q; exact wp_cloop_nil.mpr (by simpa using q)
    | cons x post ih =>
      intro acc hm hz q
      have hz' : acc.length + (post.length + 1) ≤ 16777216 := hz
      rw [List.map_cons]
      refine (wp_cloop_cons (by omega)).mpr (wp_mono (h x (hm x (by simp))) fun _ ρ1 h1 => wp_mono h1 fun bb ρ2 h2 => ?_)
      obtain ⟨e1, h2⟩ := h2
      subst e1
      by_cases hb : b x = true
      · rw [hb, ifQ_t] at h2
        rw [hb, ifQ_t]
        refine wp_mono h2 fun y ρ3 h3 => ?_
        obtain ⟨e2, e3⟩ := h3
        subst e2
        rw [e3]
        refine ih _ (fun z hz => hm z (by simp [hz])) (by simp; omega) ?_
        rw [List.filter_cons_of_pos hb] at q
        simpa using q
      · have hb' : b x = false := by simpa using hb
        rw [hb', ifQ_f] at h2
        rw [hb', ifQ_f]
        rw [h2]
        refine ih _ (fun z hz => hm z (by simp [hz])) (by omega) ?_
        rw [List.filter_cons_of_neg hb] at q
        exact q
  exact key xs [] (fun _ h => h) (by simpa using hn) (by simpa using q)
end
/-- lo, lo + 1, .. -/
def intsL (lo : Int) (n : Nat) : List Int := (List.range n).map fun (i : Nat) => lo + (i : Int)
theorem rangeL_eq (lo : Int) (n : Nat) : rangeL lo n = (intsL lo n).map D.int := by simp [rangeL, intsL, List.map_map, Function.comp_def]
theorem ints_length (lo : Int) (n : Nat) : (intsL lo n).length = n := by simp [intsL]
theorem rangeL_length (lo : Int) (n : Nat) : (rangeL lo n).length = n := by simp [rangeL]
theorem mem_ints {lo : Int} {n : Nat} {x : Int} (h : x ∈ intsL lo n) : lo ≤ x ∧ x < lo + n := by
  simp only [intsL, List.mem_map, List.mem_range] at h
  obtain ⟨i, hi, rfl⟩ := h
  omega
theorem rng1_2 : rng1 [.int 2] = some [.int 0, .int 1] := rfl
/-- membership among whole numbers -/
theorem inV_ints (i : Int) : ∀ ns : List Int, inV (.int i) (ns.map V.int) = decide (i ∈ ns)
  | [] => by simp [inV]
  | n :: r => by
    have ih := inV_ints i r
    simp only [inV, List.map_cons, List.any_cons] at ih ⊢
    rw [ih]
    have : eqV (.int n) (.int i) = decide (n = i) := by first | rfl | (simp [eqV])
    rw [this]
    by_cases h : n = i
    · subst h; simp
    · have h' : i ≠ n := fun e => h e.symm
      simp [h, h']
theorem flat_ints : ∀ ns : List Int, (ns.map D.int).all flatD = true
  | [] => rfl
  | n :: r => by rw [List.map_cons, List.all_cons, flat_ints r]; rfl
theorem inB_ints (i : Int) (ns : List Int) : inB (.int i) (ns.map D.int) = decide (i ∈ ns) := by
  unfold inB
  rw [List.map_map]
  have : (vOf ∘ D.int) = V.int := by funext x; rfl
  rw [this]
  exact inV_ints i ns
theorem in_tup (i : Int) (ns : List Int) : inD (.int i) (.tup (ns.map D.int)) = some (.bl (decide (i ∈ ns))) := by
  unfold inD inFlat
  simp only [flatD, flat_ints, Bool.and_self, if_true, inB_ints, Option.map_some]
theorem in_lst (i : Int) (ns : List Int) : inD (.int i) (.lst (ns.map D.int)) = some (.bl (decide (i ∈ ns))) := by
  unfold inD inFlat
  simp only [flatD, flat_ints, Bool.and_self, if_true, inB_ints, Option.map_some]
theorem notIn_tup (i : Int) (ns : List Int) : notInD (.int i) (.tup (ns.map D.int)) = some (.bl (!decide (i ∈ ns))) := by
  unfold notInD inFlat
  simp only [flatD, flat_ints, Bool.and_self, if_true, inB_ints, Option.map_some]
theorem notIn_lst (i : Int) (ns : List Int) : notInD (.int i) (.lst (ns.map D.int)) = some (.bl (!decide (i ∈ ns))) := by
  unfold notInD inFlat
  simp only [flatD, flat_ints, Bool.and_self, if_true, inB_ints, Option.map_some]
/-! texts -/
theorem str_app_assoc (a b c : Str) : (a ++ b) ++ c = a ++ (b ++ c) := by
  show Str.mk ((a.cps ++ b.cps) ++ c.cps) = Str.mk (a.cps ++ (b.cps ++ c.cps))
  rw [Array.append_assoc]
theorem str_app_nil (a : Str) : a ++ ("" : Str) = a := by
  show Str.mk (a.cps ++ (Str.ofString "").cps) = a
  have : (Str.ofString "").cps = #[] := by decide +kernel
  rw [this, Array.append_empty]
theorem str_nil_app (a : Str) : ("" : Str) ++ a = a := by
  show Str.mk ((Str.ofString "").cps ++ a.cps) = a
  have : (Str.ofString "").cps = #[] := by decide +kernel
  rw [this, Array.empty_append]
theorem str_len_app (a b : Str) : (a ++ b).length = a.length + b.length := by
  show (a.cps ++ b.cps).size = a.cps.size + b.cps.size
  exact Array.size_append
theorem str_0 : strD (.int 0) = some (.str "0") := by
  have h : toString (0 : Int) = "0" := by decide +kernel
  unfold strD
  simp only [h]
  rw [if_pos (by decide)]
theorem str_1 : strD (.int 1) = some (.str "1") := by
  have h : toString (1 : Int) = "1" := by decide +kernel
  unfold strD
  simp only [h]
  rw [if_pos (by decide)]
end Z
namespace Z
open PySem L2
theorem fw {n : Nat} {b : M Z.Flow} {as : List SV} {Qf : RV → En → Prop} (h : ∀ K : Z.Flow → En → Prop, (∀ fl ρ, endQ fl (fun x => Qf x (ρ.take as.length)) → K fl ρ) → wp b (as.map some ++ List.replicate (n - as.length) none) K) : fwp (runBody n b) as Qf :=
  fwp_run.mpr (h _ fun _ _ h => h)
end Z
namespace Z
open PySem L2
theorem atI_ints {ns : List Int} {i : Int} (h0 : 0 ≤ i) (h : i < ns.length) : ∃ v : Int, atI (ns.map D.int) i = some (.int v) ∧ ns[i.toNat]? = some v := by
  have hi : i.toNat < ns.length := by omega
  exact ⟨ns[i.toNat], atI_of h0 (by rw [List.getElem?_map, List.getElem?_eq_getElem hi]; rfl), List.getElem?_eq_getElem hi⟩
theorem ifQ_join {b : Bool} {A B : Prop} (h1 : A) (h2 : B) : ifQ b A B := ifQ_of (fun _ => h1) fun _ => h2
end Z
namespace Z
open PySem L2
/-- a slot that holds data, or nothing -/
abbrev mD (a : Option D) : Option SV := a.map SV.d
theorem setQ_m {a : Option D} {P : Prop} : setQ (some (a.map SV.d)) P ↔ P := by cases a <;> exact Iff.rfl
theorem truD_bl {b : Bool} : truD (.bl b) = some b := rfl
theorem inD_tup2 (i : Int) (ns : List Int) : inD (.int i) (.tup (ns.map D.int)) = some (.bl (decide (i ∈ ns))) := in_tup i ns
end Z

/-! Z: small answers of the operators -/
namespace Z
open PySem L2

theorem items_lst {xs : List D} : itemsD (.lst xs) = some xs := rfl
theorem items_tup {xs : List D} : itemsD (.tup xs) = some xs := rfl
theorem items_kls {xs : List D} : itemsD (.kls xs) = some xs := rfl
theorem tru_int {i : Int} : truD (.int i) = some (i != 0) := rfl
theorem tru_tup {xs : List D} : truD (.tup xs) = some (!xs.isEmpty) := rfl
theorem tru_lst {xs : List D} : truD (.lst xs) = some (!xs.isEmpty) := rfl
theorem eq_non_int {i : Int} : eqD .non (.int i) = some (.bl false) := rfl
theorem eq_int_non {i : Int} : eqD (.int i) .non = some (.bl false) := rfl
theorem ne_non_int {i : Int} : neD .non (.int i) = some (.bl true) := rfl
theorem ne_int_non {i : Int} : neD (.int i) .non = some (.bl true) := rfl
theorem isNon_int {i : Int} : isNonD (.int i) = false := rfl
theorem isNon_str {i : Str} : isNonD (.str i) = false := rfl
theorem isNon_tup {i : List D} : isNonD (.tup i) = false := rfl
theorem isNon_lst {i : List D} : isNonD (.lst i) = false := rfl
theorem isNon_bl {i : Bool} : isNonD (.bl i) = false := rfl
theorem isNon_non : isNonD .non = true := rfl
theorem setIx_3 {a b c d x : D} {l : List D} : setIxD (a :: b :: c :: d :: l) (.int 3) x = some (a :: b :: c :: x :: l) := by
  simp only [setIxD, List.length_cons]; rw [ixN_of (by omega) (by omega)]; rfl
theorem setIx_4 {a b c d e x : D} {l : List D} : setIxD (a :: b :: c :: d :: e :: l) (.int 4) x = some (a :: b :: c :: d :: x :: l) := by
  simp only [setIxD, List.length_cons]; rw [ixN_of (by omega) (by omega)]; rfl
theorem setIx_5 {a b c d e f x : D} {l : List D} : setIxD (a :: b :: c :: d :: e :: f :: l) (.int 5) x = some (a :: b :: c :: d :: e :: x :: l) := by
  simp only [setIxD, List.length_cons]; rw [ixN_of (by omega) (by omega)]; rfl
theorem atI_map {α β : Type} (f : α → β) {xs : List α} {i : Int} (h0 : 0 ≤ i) (h : i < xs.length) : ∃ v, v ∈ xs ∧ atI (xs.map f) i = some (f v) ∧ xs[i.toNat]? = some v := by
  have hl : i.toNat < xs.length := by omega
  refine ⟨xs[i.toNat], List.getElem_mem hl, ?_, List.getElem?_eq_getElem hl⟩
  exact atI_of h0 (by rw [List.getElem?_map, List.getElem?_eq_getElem hl]; rfl)
theorem cutG_map {α β : Type} (f : α → β) (xs : List α) (lo hi : Option Int) : cutG (xs.map f) lo hi = (cutG xs lo hi).map f := by
  simp only [cutG, List.length_map, List.map_take, List.map_drop]
theorem filter_true {α : Type} (xs : List α) : xs.filter (fun _ => true) = xs := by simp
theorem cutG_le {α : Type} (xs : List α) (lo hi : Option Int) : (cutG xs lo hi).length ≤ xs.length := by
  simp only [cutG, List.length_take, List.length_drop]; omega
end Z

namespace G
open PySem L2 Z
def top (i : Nat) : Stmt := PySem.Challenge.pw_everyhands_k72_whole_turns_on_all_ways.main.body.getD i (.Pass ⟨0, 0, 0, 0⟩)
abbrev s_walk : Stmt := top 1
abbrev s_tree_bits : Stmt := top 2
abbrev s_stretches : Stmt := top 4
abbrev s_sides_heard : Stmt := top 5
abbrev s__law_mixed : Stmt := top 7
abbrev s__law_bag : Stmt := top 8
abbrev s__law_draw : Stmt := top 9
abbrev s__law_whole : Stmt := top 10
abbrev s__law_same : Stmt := top 11
abbrev s__law_lot : Stmt := top 12
abbrev s__law_end : Stmt := top 13
abbrev s__law_side : Stmt := top 14
abbrev s__law_grown : Stmt := top 15
abbrev s__law_tree : Stmt := top 16
abbrev s__law_heard : Stmt := top 17
abbrev s__law_bent : Stmt := top 18
abbrev s__law_other : Stmt := top 19
abbrev s__law_asked : Stmt := top 20
abbrev s__law_walk : Stmt := top 21
abbrev s__law_words : Stmt := top 22
abbrev s__law_close : Stmt := top 23
abbrev s_law : Stmt := top 24
structure Txt (K : PySem.W.Frag) (mg : Str → Option Value) where
  a_walk : Addr
  fd_walk : FuncData
  F_walk : Fun K "walk" "walk" s_walk a_walk fd_walk
  b_walk : Binds K fd_walk ["tree", "inputs"] []
  g_walk : mg "walk" = some (.ref a_walk)
  a_tree_bits : Addr
  fd_tree_bits : FuncData
  F_tree_bits : Fun K "tree_bits" "tree_bits" s_tree_bits a_tree_bits fd_tree_bits
  b_tree_bits : Binds K fd_tree_bits ["tree", "inputs"] []
  g_tree_bits : mg "tree_bits" = some (.ref a_tree_bits)
  a_stretches : Addr
  fd_stretches : FuncData
  F_stretches : Fun K "stretches" "stretches" s_stretches a_stretches fd_stretches
  b_stretches : Binds K fd_stretches ["tree", "last", "many"] []
  g_stretches : mg "stretches" = some (.ref a_stretches)
  a_sides_heard : Addr
  fd_sides_heard : FuncData
  F_sides_heard : Fun K "sides_heard" "sides_heard" s_sides_heard a_sides_heard fd_sides_heard
  b_sides_heard : Binds K fd_sides_heard ["tree"] []
  g_sides_heard : mg "sides_heard" = some (.ref a_sides_heard)
  a__law_mixed : Addr
  fd__law_mixed : FuncData
  F__law_mixed : Fun K "_law_mixed" "_law_mixed" s__law_mixed a__law_mixed fd__law_mixed
  b__law_mixed : Binds K fd__law_mixed ["seed", "add"] []
  g__law_mixed : mg "_law_mixed" = some (.ref a__law_mixed)
  a__law_bag : Addr
  fd__law_bag : FuncData
  F__law_bag : Fun K "_law_bag" "_law_bag" s__law_bag a__law_bag fd__law_bag
  b__law_bag : Binds K fd__law_bag ["script"] []
  g__law_bag : mg "_law_bag" = some (.ref a__law_bag)
  a__law_draw : Addr
  fd__law_draw : FuncData
  F__law_draw : Fun K "_law_draw" "_law_draw" s__law_draw a__law_draw fd__law_draw
  b__law_draw : Binds K fd__law_draw ["bag", "many"] []
  g__law_draw : mg "_law_draw" = some (.ref a__law_draw)
  a__law_whole : Addr
  fd__law_whole : FuncData
  F__law_whole : Fun K "_law_whole" "_law_whole" s__law_whole a__law_whole fd__law_whole
  b__law_whole : Binds K fd__law_whole ["x"] []
  g__law_whole : mg "_law_whole" = some (.ref a__law_whole)
  a__law_same : Addr
  fd__law_same : FuncData
  F__law_same : Fun K "_law_same" "_law_same" s__law_same a__law_same fd__law_same
  b__law_same : Binds K fd__law_same ["actual", "due"] []
  g__law_same : mg "_law_same" = some (.ref a__law_same)
  a__law_lot : Addr
  fd__law_lot : FuncData
  F__law_lot : Fun K "_law_lot" "_law_lot" s__law_lot a__law_lot fd__law_lot
  b__law_lot : Binds K fd__law_lot ["bag"] []
  g__law_lot : mg "_law_lot" = some (.ref a__law_lot)
  a__law_end : Addr
  fd__law_end : FuncData
  F__law_end : Fun K "_law_end" "_law_end" s__law_end a__law_end fd__law_end
  b__law_end : Binds K fd__law_end ["bag"] []
  g__law_end : mg "_law_end" = some (.ref a__law_end)
  a__law_side : Addr
  fd__law_side : FuncData
  F__law_side : Fun K "_law_side" "_law_side" s__law_side a__law_side fd__law_side
  b__law_side : Binds K fd__law_side ["bag", "last", "kind"] []
  g__law_side : mg "_law_side" = some (.ref a__law_side)
  a__law_grown : Addr
  fd__law_grown : FuncData
  F__law_grown : Fun K "_law_grown" "_law_grown" s__law_grown a__law_grown fd__law_grown
  b__law_grown : Binds K fd__law_grown ["bag", "says", "deep", "last", "kind", "shape"] []
  g__law_grown : mg "_law_grown" = some (.ref a__law_grown)
  a__law_tree : Addr
  fd__law_tree : FuncData
  F__law_tree : Fun K "_law_tree" "_law_tree" s__law_tree a__law_tree fd__law_tree
  b__law_tree : Binds K fd__law_tree ["bag"] []
  g__law_tree : mg "_law_tree" = some (.ref a__law_tree)
  a__law_heard : Addr
  fd__law_heard : FuncData
  F__law_heard : Fun K "_law_heard" "_law_heard" s__law_heard a__law_heard fd__law_heard
  b__law_heard : Binds K fd__law_heard ["tree", "last"] []
  g__law_heard : mg "_law_heard" = some (.ref a__law_heard)
  a__law_bent : Addr
  fd__law_bent : FuncData
  F__law_bent : Fun K "_law_bent" "_law_bent" s__law_bent a__law_bent fd__law_bent
  b__law_bent : Binds K fd__law_bent ["tree", "bag"] []
  g__law_bent : mg "_law_bent" = some (.ref a__law_bent)
  a__law_other : Addr
  fd__law_other : FuncData
  F__law_other : Fun K "_law_other" "_law_other" s__law_other a__law_other fd__law_other
  b__law_other : Binds K fd__law_other ["tree", "turn", "lot"] []
  g__law_other : mg "_law_other" = some (.ref a__law_other)
  a__law_asked : Addr
  fd__law_asked : FuncData
  F__law_asked : Fun K "_law_asked" "_law_asked" s__law_asked a__law_asked fd__law_asked
  b__law_asked : Binds K fd__law_asked ["tree"] []
  g__law_asked : mg "_law_asked" = some (.ref a__law_asked)
  a__law_walk : Addr
  fd__law_walk : FuncData
  F__law_walk : Fun K "_law_walk" "_law_walk" s__law_walk a__law_walk fd__law_walk
  b__law_walk : Binds K fd__law_walk ["tree", "pair"] []
  g__law_walk : mg "_law_walk" = some (.ref a__law_walk)
  a__law_words : Addr
  fd__law_words : FuncData
  F__law_words : Fun K "_law_words" "_law_words" s__law_words a__law_words fd__law_words
  b__law_words : Binds K fd__law_words ["tree", "bag"] []
  g__law_words : mg "_law_words" = some (.ref a__law_words)
  a__law_close : Addr
  fd__law_close : FuncData
  F__law_close : Fun K "_law_close" "_law_close" s__law_close a__law_close fd__law_close
  b__law_close : Binds K fd__law_close ["bag"] []
  g__law_close : mg "_law_close" = some (.ref a__law_close)
  a_law : Addr
  fd_law : FuncData
  F_law : Fun K "law" "law" s_law a_law fd_law
  b_law : Binds K fd_law ["script"] []
  g_law : mg "law" = some (.ref a_law)
  n_abs : mg "abs" = none
  n_bool : mg "bool" = none
  n_int : mg "int" = none
  n_isinstance : mg "isinstance" = none
  n_len : mg "len" = none
  n_max : mg "max" = none
  n_range : mg "range" = none
  n_str : mg "str" = none
  n_tuple : mg "tuple" = none
variable {P : Program} {w : World} {K : PySem.W.Frag} {mg : Str → Option Value} {base : Heap}
theorem sc_walk : FnScope ["tree", "inputs", "word", "bit"] ["tree", "inputs"] (defScope s_walk) := ⟨rfl, rfl, rfl, by decide +kernel, rfl, by decide +kernel, by decide +kernel⟩
def b_walk : M Z.Flow :=
  mseq (mset 2 (mpure (.str "")))
  (mseq (mwhile (mbool (mop2 eqD (.val (mop2 idxD (.slot 0) (.val (mpure (.int 0))))) (.val (mpure (.str "say"))))) (mseq (mset 3 (mop1 intD (.val (mop2 inD (.val (mop2 idxD (.slot 1) (.val (mop2 idxD (.slot 0) (.val (mpure (.int 1))))))) (.val (mop2 idxD (.slot 0) (.val (mpure (.int 2)))))))))
  (mseq (mset 2 (mop2 addD (.slot 2) (.val (mop1 strD (.slot 3)))))
  (mset 0 (mop2 idxD (.slot 0) (.val (mop2 addD (.val (mpure (.int 3))) (.slot 3))))))) 1000)
  (mret (mtup (mcons (mval 2) (mcons (mop2 idxD (.slot 0) (.val (mpure (.int 1)))) (mpure []))))))
def m_walk : Fn := runBody 4 b_walk
theorem ok_walk (T : Txt K mg) : FnOk P w K mg base (L2.CX P w) 1 T.a_walk T.fd_walk ["tree", "inputs"] (spM K mg 2 m_walk) :=
  fn_ok (k := 0) T.F_walk sc_walk (fun cdv A outer s H E hr => by
  have tk : Takes (cxOf (L2.CX P w) P w K mg base ["tree", "inputs", "word", "bit"] "walk" (defScope s_walk) T.a_walk cdv A outer s H E) (fun cls d _ H => E cls d H) := takes_of rfl rfl rfl rfl
  have hp : PassesOwn (model (cxOf (L2.CX P w) P w K mg base ["tree", "inputs", "word", "bit"] "walk" (defScope s_walk) T.a_walk cdv A outer s H E).prog (cxOf (L2.CX P w) P w K mg base ["tree", "inputs", "word", "bit"] "walk" (defScope s_walk) T.a_walk cdv A outer s H E).w) (cxOf (L2.CX P w) P w K mg base ["tree", "inputs", "word", "bit"] "walk" (defScope s_walk) T.a_walk cdv A outer s H E).A (cxOf (L2.CX P w) P w K mg base ["tree", "inputs", "word", "bit"] "walk" (defScope s_walk) T.a_walk cdv A outer s H E).env (cxOf (L2.CX P w) P w K mg base ["tree", "inputs", "word", "bit"] "walk" (defScope s_walk) T.a_walk cdv A outer s H E).xe := passes_of rfl
  have hu : (A.deeper (PyProof.Rows.envOfC "walk" (defScope s_walk) s.heap.objs.size T.a_walk cdv)).units + 64 < cLine := hr.units
  have hu5 : (A.deeper (PyProof.Rows.envOfC "walk" (defScope s_walk) s.heap.objs.size T.a_walk cdv)).units + 65 < cLine := by have := hr.un; omega
  have nd : (["tree", "inputs", "word", "bit"] : List Str).Nodup := sc_walk.nd
  exact (sss_cons (ss_set (i := 2) nd rfl (Or.inl rfl) se_str)
    (sss_cons (ss_while 1000 hp (st_cmp (op_eqA hu) sem_eq (SE.so (se_ix (so_slot (pv 0)) (SE.so se_int) (fun _ _ => rfl))) (SE.so se_str) (nomark _)) (sss_cons (ss_set (i := 3) nd rfl (Or.inl rfl) (se_callT1 call_int1 sem_int (by rfl) T.n_int (by decide +kernel) (SE.so (se_cmp (op_inA hu5) sem_in (SE.so (se_ix (so_slot (pv 1)) (SE.so (se_ix (so_slot (pv 0)) (SE.so se_int) (fun _ _ => rfl))) (fun _ _ => rfl))) (SE.so (se_ix (so_slot (pv 0)) (SE.so se_int) (fun _ _ => rfl))) (by rfl)))))
    (sss_cons (ss_set (i := 2) nd rfl (Or.inl rfl) (se_op op_addA sem_add (so_slot (pv 2)) (SE.so (se_callT1 call_str_int sem_str (by rfl) T.n_str (by decide +kernel) (so_slot (pv 3))))))
    (sss_one (ss_set (i := 0) nd rfl (Or.inl rfl) (se_ix (so_slot (pv 0)) (SE.so (se_op op_addA sem_add (SE.so se_int) (so_slot (pv 3)))) (fun _ _ => rfl)))))))
    (sss_one (ss_ret (se_tup (sa_cons (se_val (pv 2)) (sa_cons (se_ix (so_slot (pv 0)) (SE.so se_int) (fun _ _ => rfl)) sa_nil))))))))
theorem sc_tree_bits : FnScope ["tree", "inputs"] ["tree", "inputs"] (defScope s_tree_bits) := ⟨rfl, rfl, rfl, by decide +kernel, rfl, by decide +kernel, by decide +kernel⟩
def b_tree_bits : M Z.Flow :=
  mret (mop2 idxD (.val (mcall m_walk [.d (mval 0), .d (mval 1)])) (.val (mpure (.int 0))))
def m_tree_bits : Fn := runBody 2 b_tree_bits
theorem ok_tree_bits (T : Txt K mg) : FnOk P w K mg base (L2.CX P w) 2 T.a_tree_bits T.fd_tree_bits ["tree", "inputs"] (spM K mg 2 m_tree_bits) :=
  fn_ok (k := 1) T.F_tree_bits sc_tree_bits (fun cdv A outer s H E hr => by
  have tk : Takes (cxOf (L2.CX P w) P w K mg base ["tree", "inputs"] "tree_bits" (defScope s_tree_bits) T.a_tree_bits cdv A outer s H E) (fun cls d _ H => E cls d H) := takes_of rfl rfl rfl rfl
  have hp : PassesOwn (model (cxOf (L2.CX P w) P w K mg base ["tree", "inputs"] "tree_bits" (defScope s_tree_bits) T.a_tree_bits cdv A outer s H E).prog (cxOf (L2.CX P w) P w K mg base ["tree", "inputs"] "tree_bits" (defScope s_tree_bits) T.a_tree_bits cdv A outer s H E).w) (cxOf (L2.CX P w) P w K mg base ["tree", "inputs"] "tree_bits" (defScope s_tree_bits) T.a_tree_bits cdv A outer s H E).A (cxOf (L2.CX P w) P w K mg base ["tree", "inputs"] "tree_bits" (defScope s_tree_bits) T.a_tree_bits cdv A outer s H E).env (cxOf (L2.CX P w) P w K mg base ["tree", "inputs"] "tree_bits" (defScope s_tree_bits) T.a_tree_bits cdv A outer s H E).xe := passes_of rfl
  have hu : (A.deeper (PyProof.Rows.envOfC "tree_bits" (defScope s_tree_bits) s.heap.objs.size T.a_tree_bits cdv)).units + 64 < cLine := hr.units
  have hu5 : (A.deeper (PyProof.Rows.envOfC "tree_bits" (defScope s_tree_bits) s.heap.objs.size T.a_tree_bits cdv)).units + 65 < cLine := by have := hr.un; omega
  have nd : (["tree", "inputs"] : List Str).Nodup := sc_tree_bits.nd
  exact (sss_one (ss_ret (se_ix (SE.so (se_call ((ok_walk T).mono (by decide)) hr (by rfl) T.g_walk T.F_walk.kp T.b_walk tk (sar_d (se_val (pv 0)) (sar_d (se_val (pv 1)) sar_nil)))) (SE.so se_int) (fun _ _ => rfl)))))
theorem sc_stretches : FnScope ["tree", "last", "many", "more"] ["tree", "last", "many"] (defScope s_stretches) := ⟨rfl, rfl, rfl, by decide +kernel, rfl, by decide +kernel, by decide +kernel⟩
def b_stretches (r_stretches : Fn) : M Z.Flow :=
  mseq (mifS (mbool (mop2 eqD (.val (mop2 idxD (.slot 0) (.val (mpure (.int 0))))) (.val (mpure (.str "end"))))) (mret (mval 2)) (mnx))
  (mseq (mset 3 (mif (mbool (mop2 eqD (.val (mop2 idxD (.slot 0) (.val (mpure (.int 1))))) (.slot 1))) (mval 2) (mop2 addD (.slot 2) (.val (mpure (.int 1))))))
  (mret (mop2 max2D (.val (mcall r_stretches [.d (mop2 idxD (.slot 0) (.val (mpure (.int 3)))), .d (mop2 idxD (.slot 0) (.val (mpure (.int 1)))), .d (mval 3)])) (.val (mcall r_stretches [.d (mop2 idxD (.slot 0) (.val (mpure (.int 4)))), .d (mop2 idxD (.slot 0) (.val (mpure (.int 1)))), .d (mval 3)])))))
def m_stretches : Nat → Fn
  | 0 => fun _ => .bad
  | n + 1 => runBody 4 (b_stretches (m_stretches n))
theorem ok_stretches (T : Txt K mg) : ∀ n : Nat, FnOk P w K mg base (L2.CX P w) (0 + n) T.a_stretches T.fd_stretches ["tree", "last", "many"] (spM K mg 3 (m_stretches n))
  | 0 => fn_bad
  | n + 1 => by
    have G_stretches := ok_stretches T n
    exact fn_ok (k := 0 + n) T.F_stretches sc_stretches (fun cdv A outer s H E hr => by
  have tk : Takes (cxOf (L2.CX P w) P w K mg base ["tree", "last", "many", "more"] "stretches" (defScope s_stretches) T.a_stretches cdv A outer s H E) (fun cls d _ H => E cls d H) := takes_of rfl rfl rfl rfl
  have hp : PassesOwn (model (cxOf (L2.CX P w) P w K mg base ["tree", "last", "many", "more"] "stretches" (defScope s_stretches) T.a_stretches cdv A outer s H E).prog (cxOf (L2.CX P w) P w K mg base ["tree", "last", "many", "more"] "stretches" (defScope s_stretches) T.a_stretches cdv A outer s H E).w) (cxOf (L2.CX P w) P w K mg base ["tree", "last", "many", "more"] "stretches" (defScope s_stretches) T.a_stretches cdv A outer s H E).A (cxOf (L2.CX P w) P w K mg base ["tree", "last", "many", "more"] "stretches" (defScope s_stretches) T.a_stretches cdv A outer s H E).env (cxOf (L2.CX P w) P w K mg base ["tree", "last", "many", "more"] "stretches" (defScope s_stretches) T.a_stretches cdv A outer s H E).xe := passes_of rfl
  have hu : (A.deeper (PyProof.Rows.envOfC "stretches" (defScope s_stretches) s.heap.objs.size T.a_stretches cdv)).units + 64 < cLine := hr.units
  have hu5 : (A.deeper (PyProof.Rows.envOfC "stretches" (defScope s_stretches) s.heap.objs.size T.a_stretches cdv)).units + 65 < cLine := by have := hr.un; omega
  have nd : (["tree", "last", "many", "more"] : List Str).Nodup := sc_stretches.nd
  exact (sss_cons (ss_if (st_cmp (op_eqA hu) sem_eq (SE.so (se_ix (so_slot (pv 0)) (SE.so se_int) (fun _ _ => rfl))) (SE.so se_str) (nomark _)) (sss_one (ss_ret (se_val (pv 2)))) sss_nil)
    (sss_cons (ss_set (i := 3) nd rfl (Or.inl rfl) (se_if (st_cmp (op_eqA hu) sem_eq (SE.so (se_ix (so_slot (pv 0)) (SE.so se_int) (fun _ _ => rfl))) (so_slot (pv 1)) (nomark _)) (se_val (pv 2)) (se_op op_addA sem_add (so_slot (pv 2)) (SE.so se_int))))
    (sss_one (ss_ret (se_callB2 (call_max2 rfl) sem_max2 (by rfl) T.n_max (by decide +kernel) (SE.so (se_call G_stretches hr (by rfl) T.g_stretches T.F_stretches.kp T.b_stretches tk (sar_d (se_ix (so_slot (pv 0)) (SE.so se_int) (fun _ _ => rfl)) (sar_d (se_ix (so_slot (pv 0)) (SE.so se_int) (fun _ _ => rfl)) (sar_d (se_val (pv 3)) sar_nil))))) (SE.so (se_call G_stretches hr (by rfl) T.g_stretches T.F_stretches.kp T.b_stretches tk (sar_d (se_ix (so_slot (pv 0)) (SE.so se_int) (fun _ _ => rfl)) (sar_d (se_ix (so_slot (pv 0)) (SE.so se_int) (fun _ _ => rfl)) (sar_d (se_val (pv 3)) sar_nil)))))))))))
theorem sc_sides_heard : FnScope ["tree"] ["tree"] (defScope s_sides_heard) := ⟨rfl, rfl, rfl, by decide +kernel, rfl, by decide +kernel, by decide +kernel⟩
def b_sides_heard : M Z.Flow :=
  mret (mcall (m_stretches 40) [.d (mval 0), .d (mpure .non), .d (mpure (.int 0))])
def m_sides_heard : Fn := runBody 1 b_sides_heard
theorem ok_sides_heard (T : Txt K mg) : FnOk P w K mg base (L2.CX P w) 41 T.a_sides_heard T.fd_sides_heard ["tree"] (spM K mg 1 m_sides_heard) :=
  fn_ok (k := 40) T.F_sides_heard sc_sides_heard (fun cdv A outer s H E hr => by
  have tk : Takes (cxOf (L2.CX P w) P w K mg base ["tree"] "sides_heard" (defScope s_sides_heard) T.a_sides_heard cdv A outer s H E) (fun cls d _ H => E cls d H) := takes_of rfl rfl rfl rfl
  have hp : PassesOwn (model (cxOf (L2.CX P w) P w K mg base ["tree"] "sides_heard" (defScope s_sides_heard) T.a_sides_heard cdv A outer s H E).prog (cxOf (L2.CX P w) P w K mg base ["tree"] "sides_heard" (defScope s_sides_heard) T.a_sides_heard cdv A outer s H E).w) (cxOf (L2.CX P w) P w K mg base ["tree"] "sides_heard" (defScope s_sides_heard) T.a_sides_heard cdv A outer s H E).A (cxOf (L2.CX P w) P w K mg base ["tree"] "sides_heard" (defScope s_sides_heard) T.a_sides_heard cdv A outer s H E).env (cxOf (L2.CX P w) P w K mg base ["tree"] "sides_heard" (defScope s_sides_heard) T.a_sides_heard cdv A outer s H E).xe := passes_of rfl
  have hu : (A.deeper (PyProof.Rows.envOfC "sides_heard" (defScope s_sides_heard) s.heap.objs.size T.a_sides_heard cdv)).units + 64 < cLine := hr.units
  have hu5 : (A.deeper (PyProof.Rows.envOfC "sides_heard" (defScope s_sides_heard) s.heap.objs.size T.a_sides_heard cdv)).units + 65 < cLine := by have := hr.un; omega
  have nd : (["tree"] : List Str).Nodup := sc_sides_heard.nd
  exact (sss_one (ss_ret (se_call ((ok_stretches T 40).mono (by decide)) hr (by rfl) T.g_stretches T.F_stretches.kp T.b_stretches tk (sar_d (se_val (pv 0)) (sar_d se_non (sar_d se_int sar_nil)))))))
theorem sc__law_mixed : FnScope ["seed", "add"] ["seed", "add"] (defScope s__law_mixed) := ⟨rfl, rfl, rfl, by decide +kernel, rfl, by decide +kernel, by decide +kernel⟩
def b__law_mixed : M Z.Flow :=
  mseq (mset 0 (mop2 modD (.val (mop1 intD (.val (mop2 addD (.val (mop2 addD (.val (mop2 mulD (.slot 0) (.slot 0))) (.slot 1))) (.val (mpure (.int 40503))))))) (.val (mop2 subD (.val (mop2 powD (.val (mpure (.int 2))) (.val (mpure (.int 61))))) (.val (mpure (.int 1)))))))
  (mret (mop2 modD (.val (mop1 intD (.val (mop2 addD (.val (mop2 addD (.val (mop2 mulD (.slot 0) (.slot 0))) (.val (mop2 mulD (.val (mpure (.int 7))) (.slot 1))))) (.val (mpure (.int 12345))))))) (.val (mop2 subD (.val (mop2 powD (.val (mpure (.int 2))) (.val (mpure (.int 61))))) (.val (mpure (.int 1)))))))
def m__law_mixed : Fn := runBody 2 b__law_mixed
theorem ok__law_mixed (T : Txt K mg) : FnOk P w K mg base (L2.CX P w) 1 T.a__law_mixed T.fd__law_mixed ["seed", "add"] (spM K mg 2 m__law_mixed) :=
  fn_ok (k := 0) T.F__law_mixed sc__law_mixed (fun cdv A outer s H E hr => by
  have tk : Takes (cxOf (L2.CX P w) P w K mg base ["seed", "add"] "_law_mixed" (defScope s__law_mixed) T.a__law_mixed cdv A outer s H E) (fun cls d _ H => E cls d H) := takes_of rfl rfl rfl rfl
  have hp : PassesOwn (model (cxOf (L2.CX P w) P w K mg base ["seed", "add"] "_law_mixed" (defScope s__law_mixed) T.a__law_mixed cdv A outer s H E).prog (cxOf (L2.CX P w) P w K mg base ["seed", "add"] "_law_mixed" (defScope s__law_mixed) T.a__law_mixed cdv A outer s H E).w) (cxOf (L2.CX P w) P w K mg base ["seed", "add"] "_law_mixed" (defScope s__law_mixed) T.a__law_mixed cdv A outer s H E).A (cxOf (L2.CX P w) P w K mg base ["seed", "add"] "_law_mixed" (defScope s__law_mixed) T.a__law_mixed cdv A outer s H E).env (cxOf (L2.CX P w) P w K mg base ["seed", "add"] "_law_mixed" (defScope s__law_mixed) T.a__law_mixed cdv A outer s H E).xe := passes_of rfl
  have hu : (A.deeper (PyProof.Rows.envOfC "_law_mixed" (defScope s__law_mixed) s.heap.objs.size T.a__law_mixed cdv)).units + 64 < cLine := hr.units
  have hu5 : (A.deeper (PyProof.Rows.envOfC "_law_mixed" (defScope s__law_mixed) s.heap.objs.size T.a__law_mixed cdv)).units + 65 < cLine := by have := hr.un; omega
  have nd : (["seed", "add"] : List Str).Nodup := sc__law_mixed.nd
  exact (sss_cons (ss_set (i := 0) nd rfl (Or.inl rfl) (se_op op_mod sem_mod (SE.so (se_callT1 call_int1 sem_int (by rfl) T.n_int (by decide +kernel) (SE.so (se_op op_addA sem_add (SE.so (se_op op_addA sem_add (SE.so (se_op op_mul sem_mul (so_slot (pv 0)) (so_slot (pv 0)))) (so_slot (pv 1)))) (SE.so se_int))))) (SE.so (se_op op_sub sem_sub (SE.so (se_op op_pow sem_pow (SE.so se_int) (SE.so se_int))) (SE.so se_int)))))
    (sss_one (ss_ret (se_op op_mod sem_mod (SE.so (se_callT1 call_int1 sem_int (by rfl) T.n_int (by decide +kernel) (SE.so (se_op op_addA sem_add (SE.so (se_op op_addA sem_add (SE.so (se_op op_mul sem_mul (so_slot (pv 0)) (so_slot (pv 0)))) (SE.so (se_op op_mul sem_mul (SE.so se_int) (so_slot (pv 1)))))) (SE.so se_int))))) (SE.so (se_op op_sub sem_sub (SE.so (se_op op_pow sem_pow (SE.so se_int) (SE.so se_int))) (SE.so se_int))))))))
theorem sc__law_bag : FnScope ["script", "cell"] ["script"] (defScope s__law_bag) := ⟨rfl, rfl, rfl, by decide +kernel, rfl, by decide +kernel, by decide +kernel⟩
def b__law_bag : M Z.Flow :=
  mretF (mlst (mcons (mbind (mcomp [1] (mitems (mbind (mcutL (.slot 0) (mpure none) (mbind (mpure (.int 63)) fun x => mbind (mopt (toI x)) fun i => mpure (some i))) fun ds => mpure (.lst ds))) (gnm 1) (mpure true) (mop1 intD (.slot 1))) fun ds => mpure (.lst ds)) (mcons (mpure (.int 0)) (mcons (mpure (.int 0)) (mcons (mop2 addD (.val (mop2 powD (.val (mpure (.int 10))) (.val (mpure (.int 17))))) (.val (mpure (.int 907)))) (mcons (mpure (.int 0)) (mpure [])))))))
def m__law_bag : Fn := runBody 2 b__law_bag
theorem ok__law_bag (T : Txt K mg) : FnOk P w K mg base (L2.CX P w) 1 T.a__law_bag T.fd__law_bag ["script"] (spM K mg 1 m__law_bag) :=
  fn_ok (k := 0) T.F__law_bag sc__law_bag (fun cdv A outer s H E hr => by
  have tk : Takes (cxOf (L2.CX P w) P w K mg base ["script", "cell"] "_law_bag" (defScope s__law_bag) T.a__law_bag cdv A outer s H E) (fun cls d _ H => E cls d H) := takes_of rfl rfl rfl rfl
  have hp : PassesOwn (model (cxOf (L2.CX P w) P w K mg base ["script", "cell"] "_law_bag" (defScope s__law_bag) T.a__law_bag cdv A outer s H E).prog (cxOf (L2.CX P w) P w K mg base ["script", "cell"] "_law_bag" (defScope s__law_bag) T.a__law_bag cdv A outer s H E).w) (cxOf (L2.CX P w) P w K mg base ["script", "cell"] "_law_bag" (defScope s__law_bag) T.a__law_bag cdv A outer s H E).A (cxOf (L2.CX P w) P w K mg base ["script", "cell"] "_law_bag" (defScope s__law_bag) T.a__law_bag cdv A outer s H E).env (cxOf (L2.CX P w) P w K mg base ["script", "cell"] "_law_bag" (defScope s__law_bag) T.a__law_bag cdv A outer s H E).xe := passes_of rfl
  have hu : (A.deeper (PyProof.Rows.envOfC "_law_bag" (defScope s__law_bag) s.heap.objs.size T.a__law_bag cdv)).units + 64 < cLine := hr.units
  have hu5 : (A.deeper (PyProof.Rows.envOfC "_law_bag" (defScope s__law_bag) s.heap.objs.size T.a__law_bag cdv)).units + 65 < cLine := by have := hr.un; omega
  have nd : (["script", "cell"] : List Str).Nodup := sc__law_bag.nd
  exact (sss_one (ss_retF (sf_lst (sa_cons (SF.se (sf_comp (own := [("cell", 1)]) rfl nd  (si_seq (SF.se (sf_cut (so_slot (pv 0)) spo_none (spo_some se_int)))) (blkOk_by (own := [("cell", 1)]) (N := ["script", "cell"]) (sc := defScope s__law_bag) (by decide +kernel)) (fun _ _ _ _ _ => (sg_name (i := 1) (by decide) (pg_name (i := 1) nd rfl (by first | exact Or.inl rfl | exact Or.inr rfl)))) (fun _ _ _ _ _ => spts_nil) (fun _ _ _ _ _ => (se_callT1 call_int1 sem_int (by rfl) T.n_int (by decide +kernel) (so_slot (pv 1)))))) (sa_cons se_int (sa_cons se_int (sa_cons (se_op op_addA sem_add (SE.so (se_op op_pow sem_pow (SE.so se_int) (SE.so se_int))) (SE.so se_int)) (sa_cons se_int sa_nil)))))))))
theorem sc__law_draw : FnScope ["bag", "many", "cell", "told"] ["bag", "many"] (defScope s__law_draw) := ⟨rfl, rfl, rfl, by decide +kernel, rfl, by decide +kernel, by decide +kernel⟩
def b__law_draw : M Z.Flow :=
  mseq (msetIx 0 (mpure (.int 4)) (mop2 addD (.val (mop2 idxD (.slot 0) (.val (mpure (.int 4))))) (.val (mpure (.int 1)))))
  (mseq (mifS (mand (mbool (mop2 ltD (.val (mop2 idxD (.slot 0) (.val (mpure (.int 2))))) (.val (mpure (.int 2))))) (mbool (mop2 ltD (.val (mop2 idxD (.slot 0) (.val (mpure (.int 1))))) (.val (mop1 lenD (.val (mop2 idxD (.slot 0) (.val (mpure (.int 0)))))))))) (mseq (mset 2 (mop2 idxD (.val (mop2 idxD (.slot 0) (.val (mpure (.int 0))))) (.val (mop2 idxD (.slot 0) (.val (mpure (.int 1)))))))
  (mseq (msetIx 0 (mpure (.int 1)) (mop2 addD (.val (mop2 idxD (.slot 0) (.val (mpure (.int 1))))) (.val (mpure (.int 1)))))
  (mseq (msetIx 0 (mpure (.int 2)) (mpure (.int 0)))
  (mseq (msetIx 0 (mpure (.int 3)) (mcall m__law_mixed [.d (mop2 idxD (.slot 0) (.val (mpure (.int 3)))), .d (mval 2)]))
  (mifS (mbool (mop2 geD (.val (mop1 absD (.slot 2))) (.val (mop2 powD (.val (mpure (.int 10))) (.val (mpure (.int 18))))))) (msetIx 0 (mpure (.int 2)) (mop1 absD (.slot 2))) (mnx)))))) (mnx))
  (mseq (mifS (mbool (mop2 gtD (.val (mop2 idxD (.slot 0) (.val (mpure (.int 2))))) (.val (mpure (.int 1))))) (mseq (mset 3 (mop2 modD (.val (mop1 intD (.val (mop2 idxD (.slot 0) (.val (mpure (.int 2))))))) (.slot 1)))
  (mseq (msetIx 0 (mpure (.int 2)) (mop2 divD (.val (mop2 idxD (.slot 0) (.val (mpure (.int 2))))) (.slot 1)))
  (mret (mval 3)))) (mnx))
  (mseq (msetIx 0 (mpure (.int 3)) (mcall m__law_mixed [.d (mop2 idxD (.slot 0) (.val (mpure (.int 3)))), .d (mop2 idxD (.slot 0) (.val (mpure (.int 4))))]))
  (mret (mop2 modD (.val (mop1 intD (.val (mop2 divD (.val (mop2 idxD (.slot 0) (.val (mpure (.int 3))))) (.val (mpure (.int 4096))))))) (.slot 1))))))
def m__law_draw : Fn := runBody 4 b__law_draw
theorem ok__law_draw (T : Txt K mg) : FnOk P w K mg base (L2.CX P w) 2 T.a__law_draw T.fd__law_draw ["bag", "many"] (spM K mg 2 m__law_draw) :=
  fn_ok (k := 1) T.F__law_draw sc__law_draw (fun cdv A outer s H E hr => by
  have tk : Takes (cxOf (L2.CX P w) P w K mg base ["bag", "many", "cell", "told"] "_law_draw" (defScope s__law_draw) T.a__law_draw cdv A outer s H E) (fun cls d _ H => E cls d H) := takes_of rfl rfl rfl rfl
  have hp : PassesOwn (model (cxOf (L2.CX P w) P w K mg base ["bag", "many", "cell", "told"] "_law_draw" (defScope s__law_draw) T.a__law_draw cdv A outer s H E).prog (cxOf (L2.CX P w) P w K mg base ["bag", "many", "cell", "told"] "_law_draw" (defScope s__law_draw) T.a__law_draw cdv A outer s H E).w) (cxOf (L2.CX P w) P w K mg base ["bag", "many", "cell", "told"] "_law_draw" (defScope s__law_draw) T.a__law_draw cdv A outer s H E).A (cxOf (L2.CX P w) P w K mg base ["bag", "many", "cell", "told"] "_law_draw" (defScope s__law_draw) T.a__law_draw cdv A outer s H E).env (cxOf (L2.CX P w) P w K mg base ["bag", "many", "cell", "told"] "_law_draw" (defScope s__law_draw) T.a__law_draw cdv A outer s H E).xe := passes_of rfl
  have hu : (A.deeper (PyProof.Rows.envOfC "_law_draw" (defScope s__law_draw) s.heap.objs.size T.a__law_draw cdv)).units + 64 < cLine := hr.units
  have hu5 : (A.deeper (PyProof.Rows.envOfC "_law_draw" (defScope s__law_draw) s.heap.objs.size T.a__law_draw cdv)).units + 65 < cLine := by have := hr.un; omega
  have nd : (["bag", "many", "cell", "told"] : List Str).Nodup := sc__law_draw.nd
  exact (sss_cons (ss_setIx (i := 0) (pv 0) se_int (se_op op_addA sem_add (SE.so (se_ix (so_slot (pv 0)) (SE.so se_int) (fun _ _ => rfl))) (SE.so se_int)))
    (sss_cons (ss_if (SW.st (sw_and (st_cmp op_lt sem_lt (SE.so (se_ix (so_slot (pv 0)) (SE.so se_int) (fun _ _ => rfl))) (SE.so se_int) (nomark _)) (sw_and1 (st_cmp op_lt sem_lt (SE.so (se_ix (so_slot (pv 0)) (SE.so se_int) (fun _ _ => rfl))) (SE.so (se_callB1 call_len sem_len (by rfl) T.n_len (by decide +kernel) (SE.so (se_ix (so_slot (pv 0)) (SE.so se_int) (fun _ _ => rfl))))) (nomark _))))) (sss_cons (ss_set (i := 2) nd rfl (Or.inl rfl) (se_ix (SE.so (se_ix (so_slot (pv 0)) (SE.so se_int) (fun _ _ => rfl))) (SE.so (se_ix (so_slot (pv 0)) (SE.so se_int) (fun _ _ => rfl))) (fun _ _ => rfl)))
    (sss_cons (ss_setIx (i := 0) (pv 0) se_int (se_op op_addA sem_add (SE.so (se_ix (so_slot (pv 0)) (SE.so se_int) (fun _ _ => rfl))) (SE.so se_int)))
    (sss_cons (ss_setIx (i := 0) (pv 0) se_int se_int)
    (sss_cons (ss_setIx (i := 0) (pv 0) se_int (se_call ((ok__law_mixed T).mono (by decide)) hr (by rfl) T.g__law_mixed T.F__law_mixed.kp T.b__law_mixed tk (sar_d (se_ix (so_slot (pv 0)) (SE.so se_int) (fun _ _ => rfl)) (sar_d (se_val (pv 2)) sar_nil))))
    (sss_one (ss_if (st_cmp op_ge sem_ge (SE.so (se_callB1 call_abs sem_abs (by rfl) T.n_abs (by decide +kernel) (so_slot (pv 2)))) (SE.so (se_op op_pow sem_pow (SE.so se_int) (SE.so se_int))) (nomark _)) (sss_one (ss_setIx (i := 0) (pv 0) se_int (se_callB1 call_abs sem_abs (by rfl) T.n_abs (by decide +kernel) (so_slot (pv 2))))) sss_nil)))))) sss_nil)
    (sss_cons (ss_if (st_cmp op_gt sem_gt (SE.so (se_ix (so_slot (pv 0)) (SE.so se_int) (fun _ _ => rfl))) (SE.so se_int) (nomark _)) (sss_cons (ss_set (i := 3) nd rfl (Or.inl rfl) (se_op op_mod sem_mod (SE.so (se_callT1 call_int1 sem_int (by rfl) T.n_int (by decide +kernel) (SE.so (se_ix (so_slot (pv 0)) (SE.so se_int) (fun _ _ => rfl))))) (so_slot (pv 1))))
    (sss_cons (ss_setIx (i := 0) (pv 0) se_int (se_op op_fdiv sem_div (SE.so (se_ix (so_slot (pv 0)) (SE.so se_int) (fun _ _ => rfl))) (so_slot (pv 1))))
    (sss_one (ss_ret (se_val (pv 3)))))) sss_nil)
    (sss_cons (ss_setIx (i := 0) (pv 0) se_int (se_call ((ok__law_mixed T).mono (by decide)) hr (by rfl) T.g__law_mixed T.F__law_mixed.kp T.b__law_mixed tk (sar_d (se_ix (so_slot (pv 0)) (SE.so se_int) (fun _ _ => rfl)) (sar_d (se_ix (so_slot (pv 0)) (SE.so se_int) (fun _ _ => rfl)) sar_nil))))
    (sss_one (ss_ret (se_op op_mod sem_mod (SE.so (se_callT1 call_int1 sem_int (by rfl) T.n_int (by decide +kernel) (SE.so (se_op op_fdiv sem_div (SE.so (se_ix (so_slot (pv 0)) (SE.so se_int) (fun _ _ => rfl))) (SE.so se_int))))) (so_slot (pv 1))))))))))
theorem sc__law_whole : FnScope ["x"] ["x"] (defScope s__law_whole) := ⟨rfl, rfl, rfl, by decide +kernel, rfl, by decide +kernel, by decide +kernel⟩
def b__law_whole : M Z.Flow :=
  mret (mandV (mop1 (isiD .int) (.slot 0)) (mnotV (mop1 (isiD .bool) (.slot 0))))
def m__law_whole : Fn := runBody 1 b__law_whole
theorem ok__law_whole (T : Txt K mg) : FnOk P w K mg base (L2.CX P w) 1 T.a__law_whole T.fd__law_whole ["x"] (spM K mg 1 m__law_whole) :=
  fn_ok (k := 0) T.F__law_whole sc__law_whole (fun cdv A outer s H E hr => by
  have tk : Takes (cxOf (L2.CX P w) P w K mg base ["x"] "_law_whole" (defScope s__law_whole) T.a__law_whole cdv A outer s H E) (fun cls d _ H => E cls d H) := takes_of rfl rfl rfl rfl
  have hp : PassesOwn (model (cxOf (L2.CX P w) P w K mg base ["x"] "_law_whole" (defScope s__law_whole) T.a__law_whole cdv A outer s H E).prog (cxOf (L2.CX P w) P w K mg base ["x"] "_law_whole" (defScope s__law_whole) T.a__law_whole cdv A outer s H E).w) (cxOf (L2.CX P w) P w K mg base ["x"] "_law_whole" (defScope s__law_whole) T.a__law_whole cdv A outer s H E).A (cxOf (L2.CX P w) P w K mg base ["x"] "_law_whole" (defScope s__law_whole) T.a__law_whole cdv A outer s H E).env (cxOf (L2.CX P w) P w K mg base ["x"] "_law_whole" (defScope s__law_whole) T.a__law_whole cdv A outer s H E).xe := passes_of rfl
  have hu : (A.deeper (PyProof.Rows.envOfC "_law_whole" (defScope s__law_whole) s.heap.objs.size T.a__law_whole cdv)).units + 64 < cLine := hr.units
  have hu5 : (A.deeper (PyProof.Rows.envOfC "_law_whole" (defScope s__law_whole) s.heap.objs.size T.a__law_whole cdv)).units + 65 < cLine := by have := hr.un; omega
  have nd : (["x"] : List Str).Nodup := sc__law_whole.nd
  exact (sss_one (ss_ret (se_and (se_isi (by rfl) T.n_isinstance (so_slot (pv 0)) (pe_bltn (v := .ty (Ty.nm .int)) (by rfl) T.n_int (by decide +kernel) rfl)) (se_one (se_not (se_isi (by rfl) T.n_isinstance (so_slot (pv 0)) (pe_bltn (v := .ty (Ty.nm .bool)) (by rfl) T.n_bool (by decide +kernel) rfl))))))))
theorem sc__law_same : FnScope ["actual", "due", "k"] ["actual", "due"] (defScope s__law_same) := ⟨rfl, rfl, rfl, by decide +kernel, rfl, by decide +kernel, by decide +kernel⟩
def b__law_same (r__law_same : Fn) : M Z.Flow :=
  mseq (mifS (mbool (mop2 isND (.slot 1) (.val (mpure .non)))) (mret (mop2 isND (.slot 0) (.val (mpure .non)))) (mnx))
  (mseq (mifS (mtru (.val (mop1 (isiD .tuple) (.slot 1)))) (mseq (mifS (mor (mnot (mtru (.val (mop1 (isiD .tuple) (.slot 0))))) (mbool (mop2 neD (.val (mop1 lenD (.slot 0))) (.val (mop1 lenD (.slot 1)))))) (mret (mpure (.bl false))) (mnx))
  (mseq (mforS (mrng rng1 (mcons (mop1 lenD (.slot 1)) (mpure []))) (gnm 2) (mifS (mnot (mtru (.val (mcall r__law_same [.d (mop2 idxD (.slot 0) (.slot 2)), .d (mop2 idxD (.slot 1) (.slot 2))])))) (mret (mpure (.bl false))) (mnx)))
  (mret (mpure (.bl true))))) (mnx))
  (mseq (mifS (mtru (.val (mop1 (isiD .str) (.slot 1)))) (mret (mandV (mop1 (isiD .str) (.slot 0)) (mop2 eqD (.slot 0) (.slot 1)))) (mnx))
  (mret (mandV (mcall m__law_whole [.d (mval 0)]) (mop2 eqD (.slot 0) (.slot 1))))))
def m__law_same : Nat → Fn
  | 0 => fun _ => .bad
  | n + 1 => runBody 3 (b__law_same (m__law_same n))
theorem ok__law_same (T : Txt K mg) : ∀ n : Nat, FnOk P w K mg base (L2.CX P w) (1 + n) T.a__law_same T.fd__law_same ["actual", "due"] (spM K mg 2 (m__law_same n))
  | 0 => fn_bad
  | n + 1 => by
    have G__law_same := ok__law_same T n
    exact fn_ok (k := 1 + n) T.F__law_same sc__law_same (fun cdv A outer s H E hr => by
  have tk : Takes (cxOf (L2.CX P w) P w K mg base ["actual", "due", "k"] "_law_same" (defScope s__law_same) T.a__law_same cdv A outer s H E) (fun cls d _ H => E cls d H) := takes_of rfl rfl rfl rfl
  have hp : PassesOwn (model (cxOf (L2.CX P w) P w K mg base ["actual", "due", "k"] "_law_same" (defScope s__law_same) T.a__law_same cdv A outer s H E).prog (cxOf (L2.CX P w) P w K mg base ["actual", "due", "k"] "_law_same" (defScope s__law_same) T.a__law_same cdv A outer s H E).w) (cxOf (L2.CX P w) P w K mg base ["actual", "due", "k"] "_law_same" (defScope s__law_same) T.a__law_same cdv A outer s H E).A (cxOf (L2.CX P w) P w K mg base ["actual", "due", "k"] "_law_same" (defScope s__law_same) T.a__law_same cdv A outer s H E).env (cxOf (L2.CX P w) P w K mg base ["actual", "due", "k"] "_law_same" (defScope s__law_same) T.a__law_same cdv A outer s H E).xe := passes_of rfl
  have hu : (A.deeper (PyProof.Rows.envOfC "_law_same" (defScope s__law_same) s.heap.objs.size T.a__law_same cdv)).units + 64 < cLine := hr.units
  have hu5 : (A.deeper (PyProof.Rows.envOfC "_law_same" (defScope s__law_same) s.heap.objs.size T.a__law_same cdv)).units + 65 < cLine := by have := hr.un; omega
  have nd : (["actual", "due", "k"] : List Str).Nodup := sc__law_same.nd
  exact (sss_cons (ss_if (st_cmp op_isN sem_isN (so_slot (pv 1)) (SE.so se_non) (nomark _)) (sss_one (ss_ret (se_cmp op_isN sem_isN (so_slot (pv 0)) (SE.so se_non) (nomark _)))) sss_nil)
    (sss_cons (ss_if (st_tru (SE.so (se_isi (by rfl) T.n_isinstance (so_slot (pv 1)) (pe_bltn (v := .ty (Ty.nm .tuple)) (by rfl) T.n_tuple (by decide +kernel) rfl))) (by intro _; rfl)) (sss_cons (ss_if (SW.st (sw_or (st_not (st_tru (SE.so (se_isi (by rfl) T.n_isinstance (so_slot (pv 0)) (pe_bltn (v := .ty (Ty.nm .tuple)) (by rfl) T.n_tuple (by decide +kernel) rfl))) (by intro _; rfl))) (sw_or1 (st_cmp (op_neA hu) sem_ne (SE.so (se_callB1 call_len sem_len (by rfl) T.n_len (by decide +kernel) (so_slot (pv 0)))) (SE.so (se_callB1 call_len sem_len (by rfl) T.n_len (by decide +kernel) (so_slot (pv 1)))) (nomark _))))) (sss_one (ss_ret se_bl)) sss_nil)
    (sss_cons (ss_for1 (js := [2]) hp rfl (si_range1 (by rfl) T.n_range (sa_cons (se_callB1 call_len sem_len (by rfl) T.n_len (by decide +kernel) (so_slot (pv 1))) sa_nil)) (sg_name (i := 2) (by decide) (pg_name (i := 2) nd rfl (by first | exact Or.inl rfl | exact Or.inr rfl))) (sss_one (ss_if (st_not (st_tru (SE.so (se_call G__law_same hr (by rfl) T.g__law_same T.F__law_same.kp T.b__law_same tk (sar_d (se_ix (so_slot (pv 0)) (so_slot (pv 2)) (fun _ _ => rfl)) (sar_d (se_ix (so_slot (pv 1)) (so_slot (pv 2)) (fun _ _ => rfl)) sar_nil)))) (by intro _; rfl))) (sss_one (ss_ret se_bl)) sss_nil)))
    (sss_one (ss_ret se_bl)))) sss_nil)
    (sss_cons (ss_if (st_tru (SE.so (se_isi (by rfl) T.n_isinstance (so_slot (pv 1)) (pe_bltn (v := .ty (Ty.nm .str)) (by rfl) T.n_str (by decide +kernel) rfl))) (by intro _; rfl)) (sss_one (ss_ret (se_and (se_isi (by rfl) T.n_isinstance (so_slot (pv 0)) (pe_bltn (v := .ty (Ty.nm .str)) (by rfl) T.n_str (by decide +kernel) rfl)) (se_one (se_cmp (op_eqA hu) sem_eq (so_slot (pv 0)) (so_slot (pv 1)) (nomark _)))))) sss_nil)
    (sss_one (ss_ret (se_and (se_call ((ok__law_whole T).mono (Nat.le_add_right_of_le (by decide))) hr (by rfl) T.g__law_whole T.F__law_whole.kp T.b__law_whole tk (sar_d (se_val (pv 0)) sar_nil)) (se_one (se_cmp (op_eqA hu) sem_eq (so_slot (pv 0)) (so_slot (pv 1)) (nomark _))))))))))
theorem sc__law_lot : FnScope ["bag", "mask", "by", "k"] ["bag"] (defScope s__law_lot) := ⟨rfl, rfl, rfl, by decide +kernel, rfl, by decide +kernel, by decide +kernel⟩
def b__law_lot : M Z.Flow :=
  mseq (mset 1 (mcall m__law_draw [.io 0, .d (mpure (.int 1024))]))
  (mseq (mset 2 (mop2 idxD (.val (mbind (mlst (mcons (mpure (.int 0)) (mcons (mpure (.int 0)) (mcons (mpure (.int 90)) (mpure []))))) fun ds => mpure (.lst ds))) (.val (mcall m__law_draw [.io 0, .d (mpure (.int 3))]))))
  (mret (mop1 tupleD (.val (mbind (mcomp [3] (mrng rng1 (mcons (mpure (.int 10)) (mpure []))) (gnm 3) (mtru (.val (mop2 andD (.val (mop2 shrD (.slot 1) (.slot 3))) (.val (mpure (.int 1)))))) (mop2 addD (.slot 2) (.slot 3))) fun ds => mpure (.lst ds))))))
def m__law_lot : Fn := runBody 4 b__law_lot
theorem ok__law_lot (T : Txt K mg) : FnOk P w K mg base (L2.CX P w) 3 T.a__law_lot T.fd__law_lot ["bag"] (spM K mg 1 m__law_lot) :=
  fn_ok (k := 2) T.F__law_lot sc__law_lot (fun cdv A outer s H E hr => by
  have tk : Takes (cxOf (L2.CX P w) P w K mg base ["bag", "mask", "by", "k"] "_law_lot" (defScope s__law_lot) T.a__law_lot cdv A outer s H E) (fun cls d _ H => E cls d H) := takes_of rfl rfl rfl rfl
  have hp : PassesOwn (model (cxOf (L2.CX P w) P w K mg base ["bag", "mask", "by", "k"] "_law_lot" (defScope s__law_lot) T.a__law_lot cdv A outer s H E).prog (cxOf (L2.CX P w) P w K mg base ["bag", "mask", "by", "k"] "_law_lot" (defScope s__law_lot) T.a__law_lot cdv A outer s H E).w) (cxOf (L2.CX P w) P w K mg base ["bag", "mask", "by", "k"] "_law_lot" (defScope s__law_lot) T.a__law_lot cdv A outer s H E).A (cxOf (L2.CX P w) P w K mg base ["bag", "mask", "by", "k"] "_law_lot" (defScope s__law_lot) T.a__law_lot cdv A outer s H E).env (cxOf (L2.CX P w) P w K mg base ["bag", "mask", "by", "k"] "_law_lot" (defScope s__law_lot) T.a__law_lot cdv A outer s H E).xe := passes_of rfl
  have hu : (A.deeper (PyProof.Rows.envOfC "_law_lot" (defScope s__law_lot) s.heap.objs.size T.a__law_lot cdv)).units + 64 < cLine := hr.units
  have hu5 : (A.deeper (PyProof.Rows.envOfC "_law_lot" (defScope s__law_lot) s.heap.objs.size T.a__law_lot cdv)).units + 65 < cLine := by have := hr.un; omega
  have nd : (["bag", "mask", "by", "k"] : List Str).Nodup := sc__law_lot.nd
  exact (sss_cons (ss_set (i := 1) nd rfl (Or.inr rfl) (se_call ((ok__law_draw T).mono (by decide)) hr (by rfl) T.g__law_draw T.F__law_draw.kp T.b__law_draw tk (sar_io (pv 0) (sar_d se_int sar_nil))))
    (sss_cons (ss_set (i := 2) nd rfl (Or.inr rfl) (se_ix (SE.so (SF.se (sf_lst (sa_cons se_int (sa_cons se_int (sa_cons se_int sa_nil)))))) (SE.so (se_call ((ok__law_draw T).mono (by decide)) hr (by rfl) T.g__law_draw T.F__law_draw.kp T.b__law_draw tk (sar_io (pv 0) (sar_d se_int sar_nil)))) (fun _ _ => rfl)))
    (sss_one (ss_ret (se_callT1 call_tuple_of sem_tuple (by rfl) T.n_tuple (by decide +kernel) (SE.so (SF.se (sf_comp (own := [("k", 3)]) rfl nd  (si_range1 (by rfl) T.n_range (sa_cons se_int sa_nil)) (blkOk_by (own := [("k", 3)]) (N := ["bag", "mask", "by", "k"]) (sc := defScope s__law_lot) (by decide +kernel)) (fun _ _ _ _ _ => (sg_name (i := 3) (by decide) (pg_name (i := 3) nd rfl (by first | exact Or.inl rfl | exact Or.inr rfl)))) (fun _ _ _ _ _ => (spts_one (st_tru (SE.so (se_op op_and sem_and (SE.so (se_op op_shr sem_shr (so_slot (pv 1)) (so_slot (pv 3)))) (SE.so se_int))) (by intro _; rfl)))) (fun _ _ _ _ _ => (se_op op_addA sem_add (so_slot (pv 2)) (so_slot (pv 3)))))))))))))
theorem sc__law_end : FnScope ["bag"] ["bag"] (defScope s__law_end) := ⟨rfl, rfl, rfl, by decide +kernel, rfl, by decide +kernel, by decide +kernel⟩
def b__law_end : M Z.Flow :=
  mseq (mifS (mbool (mop2 eqD (.val (mcall m__law_draw [.io 0, .d (mpure (.int 6))])) (.val (mpure (.int 5))))) (mret (mtup (mcons (mpure (.str "end")) (mcons (mtup (mcons (mcall m__law_draw [.io 0, .d (mpure (.int 3))]) (mcons (mcall m__law_draw [.io 0, .d (mpure (.int 2))]) (mpure [])))) (mpure []))))) (mnx))
  (mret (mtup (mcons (mpure (.str "end")) (mcons (mop2 subD (.val (mcall m__law_draw [.io 0, .d (mpure (.int 40))])) (.val (mpure (.int 20)))) (mpure [])))))
def m__law_end : Fn := runBody 1 b__law_end
theorem ok__law_end (T : Txt K mg) : FnOk P w K mg base (L2.CX P w) 3 T.a__law_end T.fd__law_end ["bag"] (spM K mg 1 m__law_end) :=
  fn_ok (k := 2) T.F__law_end sc__law_end (fun cdv A outer s H E hr => by
  have tk : Takes (cxOf (L2.CX P w) P w K mg base ["bag"] "_law_end" (defScope s__law_end) T.a__law_end cdv A outer s H E) (fun cls d _ H => E cls d H) := takes_of rfl rfl rfl rfl
  have hp : PassesOwn (model (cxOf (L2.CX P w) P w K mg base ["bag"] "_law_end" (defScope s__law_end) T.a__law_end cdv A outer s H E).prog (cxOf (L2.CX P w) P w K mg base ["bag"] "_law_end" (defScope s__law_end) T.a__law_end cdv A outer s H E).w) (cxOf (L2.CX P w) P w K mg base ["bag"] "_law_end" (defScope s__law_end) T.a__law_end cdv A outer s H E).A (cxOf (L2.CX P w) P w K mg base ["bag"] "_law_end" (defScope s__law_end) T.a__law_end cdv A outer s H E).env (cxOf (L2.CX P w) P w K mg base ["bag"] "_law_end" (defScope s__law_end) T.a__law_end cdv A outer s H E).xe := passes_of rfl
  have hu : (A.deeper (PyProof.Rows.envOfC "_law_end" (defScope s__law_end) s.heap.objs.size T.a__law_end cdv)).units + 64 < cLine := hr.units
  have hu5 : (A.deeper (PyProof.Rows.envOfC "_law_end" (defScope s__law_end) s.heap.objs.size T.a__law_end cdv)).units + 65 < cLine := by have := hr.un; omega
  have nd : (["bag"] : List Str).Nodup := sc__law_end.nd
  exact (sss_cons (ss_if (st_cmp (op_eqA hu) sem_eq (SE.so (se_call ((ok__law_draw T).mono (by decide)) hr (by rfl) T.g__law_draw T.F__law_draw.kp T.b__law_draw tk (sar_io (pv 0) (sar_d se_int sar_nil)))) (SE.so se_int) (nomark _)) (sss_one (ss_ret (se_tup (sa_cons se_str (sa_cons (se_tup (sa_cons (se_call ((ok__law_draw T).mono (by decide)) hr (by rfl) T.g__law_draw T.F__law_draw.kp T.b__law_draw tk (sar_io (pv 0) (sar_d se_int sar_nil))) (sa_cons (se_call ((ok__law_draw T).mono (by decide)) hr (by rfl) T.g__law_draw T.F__law_draw.kp T.b__law_draw tk (sar_io (pv 0) (sar_d se_int sar_nil))) sa_nil))) sa_nil))))) sss_nil)
    (sss_one (ss_ret (se_tup (sa_cons se_str (sa_cons (se_op op_sub sem_sub (SE.so (se_call ((ok__law_draw T).mono (by decide)) hr (by rfl) T.g__law_draw T.F__law_draw.kp T.b__law_draw tk (sar_io (pv 0) (sar_d se_int sar_nil)))) (SE.so se_int)) sa_nil)))))))
theorem sc__law_side : FnScope ["bag", "last", "kind", "side"] ["bag", "last", "kind"] (defScope s__law_side) := ⟨rfl, rfl, rfl, by decide +kernel, rfl, by decide +kernel, by decide +kernel⟩
def b__law_side : M Z.Flow :=
  mseq (mset 3 (mcall m__law_draw [.io 0, .d (mpure (.int 2))]))
  (mseq (mifS (mor (mbool (mop2 ltD (.slot 1) (.val (mpure (.int 0))))) (mbool (mop2 eqD (.slot 2) (.val (mpure (.int 0)))))) (mret (mval 3)) (mnx))
  (mseq (mifS (mand (mbool (mop2 eqD (.slot 2) (.val (mpure (.int 1))))) (mbool (mop2 gtD (.val (mcall m__law_draw [.io 0, .d (mpure (.int 6))])) (.val (mpure (.int 0)))))) (mret (mop2 subD (.val (mpure (.int 1))) (.slot 1))) (mnx))
  (mseq (mifS (mand (mbool (mop2 eqD (.slot 2) (.val (mpure (.int 2))))) (mbool (mop2 gtD (.val (mcall m__law_draw [.io 0, .d (mpure (.int 6))])) (.val (mpure (.int 0)))))) (mret (mval 1)) (mnx))
  (mret (mval 3)))))
def m__law_side : Fn := runBody 4 b__law_side
theorem ok__law_side (T : Txt K mg) : FnOk P w K mg base (L2.CX P w) 3 T.a__law_side T.fd__law_side ["bag", "last", "kind"] (spM K mg 3 m__law_side) :=
  fn_ok (k := 2) T.F__law_side sc__law_side (fun cdv A outer s H E hr => by
  have tk : Takes (cxOf (L2.CX P w) P w K mg base ["bag", "last", "kind", "side"] "_law_side" (defScope s__law_side) T.a__law_side cdv A outer s H E) (fun cls d _ H => E cls d H) := takes_of rfl rfl rfl rfl
  have hp : PassesOwn (model (cxOf (L2.CX P w) P w K mg base ["bag", "last", "kind", "side"] "_law_side" (defScope s__law_side) T.a__law_side cdv A outer s H E).prog (cxOf (L2.CX P w) P w K mg base ["bag", "last", "kind", "side"] "_law_side" (defScope s__law_side) T.a__law_side cdv A outer s H E).w) (cxOf (L2.CX P w) P w K mg base ["bag", "last", "kind", "side"] "_law_side" (defScope s__law_side) T.a__law_side cdv A outer s H E).A (cxOf (L2.CX P w) P w K mg base ["bag", "last", "kind", "side"] "_law_side" (defScope s__law_side) T.a__law_side cdv A outer s H E).env (cxOf (L2.CX P w) P w K mg base ["bag", "last", "kind", "side"] "_law_side" (defScope s__law_side) T.a__law_side cdv A outer s H E).xe := passes_of rfl
  have hu : (A.deeper (PyProof.Rows.envOfC "_law_side" (defScope s__law_side) s.heap.objs.size T.a__law_side cdv)).units + 64 < cLine := hr.units
  have hu5 : (A.deeper (PyProof.Rows.envOfC "_law_side" (defScope s__law_side) s.heap.objs.size T.a__law_side cdv)).units + 65 < cLine := by have := hr.un; omega
  have nd : (["bag", "last", "kind", "side"] : List Str).Nodup := sc__law_side.nd
  exact (sss_cons (ss_set (i := 3) nd rfl (Or.inl rfl) (se_call ((ok__law_draw T).mono (by decide)) hr (by rfl) T.g__law_draw T.F__law_draw.kp T.b__law_draw tk (sar_io (pv 0) (sar_d se_int sar_nil))))
    (sss_cons (ss_if (SW.st (sw_or (st_cmp op_lt sem_lt (so_slot (pv 1)) (SE.so se_int) (nomark _)) (sw_or1 (st_cmp (op_eqA hu) sem_eq (so_slot (pv 2)) (SE.so se_int) (nomark _))))) (sss_one (ss_ret (se_val (pv 3)))) sss_nil)
    (sss_cons (ss_if (SW.st (sw_and (st_cmp (op_eqA hu) sem_eq (so_slot (pv 2)) (SE.so se_int) (nomark _)) (sw_and1 (st_cmp op_gt sem_gt (SE.so (se_call ((ok__law_draw T).mono (by decide)) hr (by rfl) T.g__law_draw T.F__law_draw.kp T.b__law_draw tk (sar_io (pv 0) (sar_d se_int sar_nil)))) (SE.so se_int) (nomark _))))) (sss_one (ss_ret (se_op op_sub sem_sub (SE.so se_int) (so_slot (pv 1))))) sss_nil)
    (sss_cons (ss_if (SW.st (sw_and (st_cmp (op_eqA hu) sem_eq (so_slot (pv 2)) (SE.so se_int) (nomark _)) (sw_and1 (st_cmp op_gt sem_gt (SE.so (se_call ((ok__law_draw T).mono (by decide)) hr (by rfl) T.g__law_draw T.F__law_draw.kp T.b__law_draw tk (sar_io (pv 0) (sar_d se_int sar_nil)))) (SE.so se_int) (nomark _))))) (sss_one (ss_ret (se_val (pv 1)))) sss_nil)
    (sss_one (ss_ret (se_val (pv 3)))))))))
theorem sc__law_grown : FnScope ["bag", "says", "deep", "last", "kind", "shape", "side", "left", "lot", "first"] ["bag", "says", "deep", "last", "kind", "shape"] (defScope s__law_grown) := ⟨rfl, rfl, rfl, by decide +kernel, rfl, by decide +kernel, by decide +kernel⟩
def b__law_grown (r__law_grown : Fn) : M Z.Flow :=
  mseq (mifS (mor (mbool (mop2 eqD (.slot 1) (.val (mpure (.int 0))))) (mbool (mop2 eqD (.slot 2) (.val (mpure (.int 0)))))) (mret (mcall m__law_end [.io 0])) (mnx))
  (mseq (mset 6 (mcall m__law_side [.io 0, .d (mval 3), .d (mval 4)]))
  (mseq (mset 7 (mcall m__law_draw [.io 0, .d (mval 1)]))
  (mseq (mifS (mbool (mop2 eqD (.slot 5) (.val (mpure (.int 1))))) (mset 7 (mop2 idxD (.val (mbind (mlst (mcons (mpure (.int 0)) (mcons (mop2 subD (.slot 1) (.val (mpure (.int 1)))) (mpure [])))) fun ds => mpure (.lst ds))) (.val (mcall m__law_draw [.io 0, .d (mpure (.int 2))])))) (mnx))
  (mseq (mset 8 (mcall m__law_lot [.io 0]))
  (mseq (mset 9 (mcall r__law_grown [.io 0, .d (mval 7), .d (mop2 subD (.slot 2) (.val (mpure (.int 1)))), .d (mval 6), .d (mval 4), .d (mval 5)]))
  (mret (mtup (mcons (mpure (.str "say")) (mcons (mval 6) (mcons (mval 8) (mcons (mval 9) (mcons (mcall r__law_grown [.io 0, .d (mop2 subD (.val (mop2 subD (.slot 1) (.val (mpure (.int 1))))) (.slot 7)), .d (mop2 subD (.slot 2) (.val (mpure (.int 1)))), .d (mval 6), .d (mval 4), .d (mval 5)]) (mpure [])))))))))))))
def m__law_grown : Nat → Fn
  | 0 => fun _ => .bad
  | n + 1 => runBody 10 (b__law_grown (m__law_grown n))
theorem ok__law_grown (T : Txt K mg) : ∀ n : Nat, FnOk P w K mg base (L2.CX P w) (3 + n) T.a__law_grown T.fd__law_grown ["bag", "says", "deep", "last", "kind", "shape"] (spM K mg 6 (m__law_grown n))
  | 0 => fn_bad
  | n + 1 => by
    have G__law_grown := ok__law_grown T n
    exact fn_ok (k := 3 + n) T.F__law_grown sc__law_grown (fun cdv A outer s H E hr => by
  have tk : Takes (cxOf (L2.CX P w) P w K mg base ["bag", "says", "deep", "last", "kind", "shape", "side", "left", "lot", "first"] "_law_grown" (defScope s__law_grown) T.a__law_grown cdv A outer s H E) (fun cls d _ H => E cls d H) := takes_of rfl rfl rfl rfl
  have hp : PassesOwn (model (cxOf (L2.CX P w) P w K mg base ["bag", "says", "deep", "last", "kind", "shape", "side", "left", "lot", "first"] "_law_grown" (defScope s__law_grown) T.a__law_grown cdv A outer s H E).prog (cxOf (L2.CX P w) P w K mg base ["bag", "says", "deep", "last", "kind", "shape", "side", "left", "lot", "first"] "_law_grown" (defScope s__law_grown) T.a__law_grown cdv A outer s H E).w) (cxOf (L2.CX P w) P w K mg base ["bag", "says", "deep", "last", "kind", "shape", "side", "left", "lot", "first"] "_law_grown" (defScope s__law_grown) T.a__law_grown cdv A outer s H E).A (cxOf (L2.CX P w) P w K mg base ["bag", "says", "deep", "last", "kind", "shape", "side", "left", "lot", "first"] "_law_grown" (defScope s__law_grown) T.a__law_grown cdv A outer s H E).env (cxOf (L2.CX P w) P w K mg base ["bag", "says", "deep", "last", "kind", "shape", "side", "left", "lot", "first"] "_law_grown" (defScope s__law_grown) T.a__law_grown cdv A outer s H E).xe := passes_of rfl
  have hu : (A.deeper (PyProof.Rows.envOfC "_law_grown" (defScope s__law_grown) s.heap.objs.size T.a__law_grown cdv)).units + 64 < cLine := hr.units
  have hu5 : (A.deeper (PyProof.Rows.envOfC "_law_grown" (defScope s__law_grown) s.heap.objs.size T.a__law_grown cdv)).units + 65 < cLine := by have := hr.un; omega
  have nd : (["bag", "says", "deep", "last", "kind", "shape", "side", "left", "lot", "first"] : List Str).Nodup := sc__law_grown.nd
  exact (sss_cons (ss_if (SW.st (sw_or (st_cmp (op_eqA hu) sem_eq (so_slot (pv 1)) (SE.so se_int) (nomark _)) (sw_or1 (st_cmp (op_eqA hu) sem_eq (so_slot (pv 2)) (SE.so se_int) (nomark _))))) (sss_one (ss_ret (se_call ((ok__law_end T).mono (Nat.le_add_right_of_le (by decide))) hr (by rfl) T.g__law_end T.F__law_end.kp T.b__law_end tk (sar_io (pv 0) sar_nil)))) sss_nil)
    (sss_cons (ss_set (i := 6) nd rfl (Or.inl rfl) (se_call ((ok__law_side T).mono (Nat.le_add_right_of_le (by decide))) hr (by rfl) T.g__law_side T.F__law_side.kp T.b__law_side tk (sar_io (pv 0) (sar_d (se_val (pv 3)) (sar_d (se_val (pv 4)) sar_nil)))))
    (sss_cons (ss_set (i := 7) nd rfl (Or.inl rfl) (se_call ((ok__law_draw T).mono (Nat.le_add_right_of_le (by decide))) hr (by rfl) T.g__law_draw T.F__law_draw.kp T.b__law_draw tk (sar_io (pv 0) (sar_d (se_val (pv 1)) sar_nil))))
    (sss_cons (ss_if (st_cmp (op_eqA hu) sem_eq (so_slot (pv 5)) (SE.so se_int) (nomark _)) (sss_one (ss_set (i := 7) nd rfl (Or.inl rfl) (se_ix (SE.so (SF.se (sf_lst (sa_cons se_int (sa_cons (se_op op_sub sem_sub (so_slot (pv 1)) (SE.so se_int)) sa_nil))))) (SE.so (se_call ((ok__law_draw T).mono (Nat.le_add_right_of_le (by decide))) hr (by rfl) T.g__law_draw T.F__law_draw.kp T.b__law_draw tk (sar_io (pv 0) (sar_d se_int sar_nil)))) (fun _ _ => rfl)))) sss_nil)
    (sss_cons (ss_set (i := 8) nd rfl (Or.inl rfl) (se_call ((ok__law_lot T).mono (Nat.le_add_right_of_le (by decide))) hr (by rfl) T.g__law_lot T.F__law_lot.kp T.b__law_lot tk (sar_io (pv 0) sar_nil)))
    (sss_cons (ss_set (i := 9) nd rfl (Or.inl rfl) (se_call G__law_grown hr (by rfl) T.g__law_grown T.F__law_grown.kp T.b__law_grown tk (sar_io (pv 0) (sar_d (se_val (pv 7)) (sar_d (se_op op_sub sem_sub (so_slot (pv 2)) (SE.so se_int)) (sar_d (se_val (pv 6)) (sar_d (se_val (pv 4)) (sar_d (se_val (pv 5)) sar_nil))))))))
    (sss_one (ss_ret (se_tup (sa_cons se_str (sa_cons (se_val (pv 6)) (sa_cons (se_val (pv 8)) (sa_cons (se_val (pv 9)) (sa_cons (se_call G__law_grown hr (by rfl) T.g__law_grown T.F__law_grown.kp T.b__law_grown tk (sar_io (pv 0) (sar_d (se_op op_sub sem_sub (SE.so (se_op op_sub sem_sub (so_slot (pv 1)) (SE.so se_int))) (so_slot (pv 7))) (sar_d (se_op op_sub sem_sub (so_slot (pv 2)) (SE.so se_int)) (sar_d (se_val (pv 6)) (sar_d (se_val (pv 4)) (sar_d (se_val (pv 5)) sar_nil))))))) sa_nil)))))))))))))))
theorem sc__law_tree : FnScope ["bag", "shape", "says"] ["bag"] (defScope s__law_tree) := ⟨rfl, rfl, rfl, by decide +kernel, rfl, by decide +kernel, by decide +kernel⟩
def b__law_tree : M Z.Flow :=
  mseq (mset 1 (mcall m__law_draw [.io 0, .d (mpure (.int 2))]))
  (mseq (mset 2 (mop2 idxD (.val (mbind (mlst (mcons (mcall m__law_draw [.io 0, .d (mpure (.int 60))]) (mcons (mpure (.int 20)) (mcons (mcall m__law_draw [.io 0, .d (mpure (.int 20))]) (mcons (mop2 addD (.val (mpure (.int 2))) (.val (mcall m__law_draw [.io 0, .d (mpure (.int 6))]))) (mpure [])))))) fun ds => mpure (.lst ds))) (.val (mcall m__law_draw [.io 0, .d (mpure (.int 4))]))))
  (mret (mcall (m__law_grown 40) [.io 0, .d (mop2 subD (.val (mop2 addD (.slot 2) (.val (mpure (.int 1))))) (.slot 1)), .d (mpure (.int 20)), .d (mop2 subD (.val (mpure (.int 0))) (.val (mpure (.int 1)))), .d (mcall m__law_draw [.io 0, .d (mpure (.int 3))]), .d (mval 1)])))
def m__law_tree : Fn := runBody 3 b__law_tree
theorem ok__law_tree (T : Txt K mg) : FnOk P w K mg base (L2.CX P w) 44 T.a__law_tree T.fd__law_tree ["bag"] (spM K mg 1 m__law_tree) :=
  fn_ok (k := 43) T.F__law_tree sc__law_tree (fun cdv A outer s H E hr => by
  have tk : Takes (cxOf (L2.CX P w) P w K mg base ["bag", "shape", "says"] "_law_tree" (defScope s__law_tree) T.a__law_tree cdv A outer s H E) (fun cls d _ H => E cls d H) := takes_of rfl rfl rfl rfl
  have hp : PassesOwn (model (cxOf (L2.CX P w) P w K mg base ["bag", "shape", "says"] "_law_tree" (defScope s__law_tree) T.a__law_tree cdv A outer s H E).prog (cxOf (L2.CX P w) P w K mg base ["bag", "shape", "says"] "_law_tree" (defScope s__law_tree) T.a__law_tree cdv A outer s H E).w) (cxOf (L2.CX P w) P w K mg base ["bag", "shape", "says"] "_law_tree" (defScope s__law_tree) T.a__law_tree cdv A outer s H E).A (cxOf (L2.CX P w) P w K mg base ["bag", "shape", "says"] "_law_tree" (defScope s__law_tree) T.a__law_tree cdv A outer s H E).env (cxOf (L2.CX P w) P w K mg base ["bag", "shape", "says"] "_law_tree" (defScope s__law_tree) T.a__law_tree cdv A outer s H E).xe := passes_of rfl
  have hu : (A.deeper (PyProof.Rows.envOfC "_law_tree" (defScope s__law_tree) s.heap.objs.size T.a__law_tree cdv)).units + 64 < cLine := hr.units
  have hu5 : (A.deeper (PyProof.Rows.envOfC "_law_tree" (defScope s__law_tree) s.heap.objs.size T.a__law_tree cdv)).units + 65 < cLine := by have := hr.un; omega
  have nd : (["bag", "shape", "says"] : List Str).Nodup := sc__law_tree.nd
  exact (sss_cons (ss_set (i := 1) nd rfl (Or.inl rfl) (se_call ((ok__law_draw T).mono (by decide)) hr (by rfl) T.g__law_draw T.F__law_draw.kp T.b__law_draw tk (sar_io (pv 0) (sar_d se_int sar_nil))))
    (sss_cons (ss_set (i := 2) nd rfl (Or.inl rfl) (se_ix (SE.so (SF.se (sf_lst (sa_cons (se_call ((ok__law_draw T).mono (by decide)) hr (by rfl) T.g__law_draw T.F__law_draw.kp T.b__law_draw tk (sar_io (pv 0) (sar_d se_int sar_nil))) (sa_cons se_int (sa_cons (se_call ((ok__law_draw T).mono (by decide)) hr (by rfl) T.g__law_draw T.F__law_draw.kp T.b__law_draw tk (sar_io (pv 0) (sar_d se_int sar_nil))) (sa_cons (se_op op_addA sem_add (SE.so se_int) (SE.so (se_call ((ok__law_draw T).mono (by decide)) hr (by rfl) T.g__law_draw T.F__law_draw.kp T.b__law_draw tk (sar_io (pv 0) (sar_d se_int sar_nil))))) sa_nil))))))) (SE.so (se_call ((ok__law_draw T).mono (by decide)) hr (by rfl) T.g__law_draw T.F__law_draw.kp T.b__law_draw tk (sar_io (pv 0) (sar_d se_int sar_nil)))) (fun _ _ => rfl)))
    (sss_one (ss_ret (se_call ((ok__law_grown T 40).mono (by decide)) hr (by rfl) T.g__law_grown T.F__law_grown.kp T.b__law_grown tk (sar_io (pv 0) (sar_d (se_op op_sub sem_sub (SE.so (se_op op_addA sem_add (so_slot (pv 2)) (SE.so se_int))) (so_slot (pv 1))) (sar_d se_int (sar_d (se_op op_sub sem_sub (SE.so se_int) (SE.so se_int)) (sar_d (se_call ((ok__law_draw T).mono (by decide)) hr (by rfl) T.g__law_draw T.F__law_draw.kp T.b__law_draw tk (sar_io (pv 0) (sar_d se_int sar_nil))) (sar_d (se_val (pv 1)) sar_nil))))))))))))
theorem sc__law_heard : FnScope ["tree", "last", "more"] ["tree", "last"] (defScope s__law_heard) := ⟨rfl, rfl, rfl, by decide +kernel, rfl, by decide +kernel, by decide +kernel⟩
def b__law_heard (r__law_heard : Fn) : M Z.Flow :=
  mseq (mifS (mbool (mop2 eqD (.val (mop2 idxD (.slot 0) (.val (mpure (.int 0))))) (.val (mpure (.str "end"))))) (mret (mpure (.int 0))) (mnx))
  (mseq (mset 2 (mop1 intD (.val (mop2 neD (.val (mop2 idxD (.slot 0) (.val (mpure (.int 1))))) (.slot 1)))))
  (mret (mop2 addD (.slot 2) (.val (mop2 max2D (.val (mcall r__law_heard [.d (mop2 idxD (.slot 0) (.val (mpure (.int 3)))), .d (mop2 idxD (.slot 0) (.val (mpure (.int 1))))])) (.val (mcall r__law_heard [.d (mop2 idxD (.slot 0) (.val (mpure (.int 4)))), .d (mop2 idxD (.slot 0) (.val (mpure (.int 1))))])))))))
def m__law_heard : Nat → Fn
  | 0 => fun _ => .bad
  | n + 1 => runBody 3 (b__law_heard (m__law_heard n))
theorem ok__law_heard (T : Txt K mg) : ∀ n : Nat, FnOk P w K mg base (L2.CX P w) (0 + n) T.a__law_heard T.fd__law_heard ["tree", "last"] (spM K mg 2 (m__law_heard n))
  | 0 => fn_bad
  | n + 1 => by
    have G__law_heard := ok__law_heard T n
    exact fn_ok (k := 0 + n) T.F__law_heard sc__law_heard (fun cdv A outer s H E hr => by
  have tk : Takes (cxOf (L2.CX P w) P w K mg base ["tree", "last", "more"] "_law_heard" (defScope s__law_heard) T.a__law_heard cdv A outer s H E) (fun cls d _ H => E cls d H) := takes_of rfl rfl rfl rfl
  have hp : PassesOwn (model (cxOf (L2.CX P w) P w K mg base ["tree", "last", "more"] "_law_heard" (defScope s__law_heard) T.a__law_heard cdv A outer s H E).prog (cxOf (L2.CX P w) P w K mg base ["tree", "last", "more"] "_law_heard" (defScope s__law_heard) T.a__law_heard cdv A outer s H E).w) (cxOf (L2.CX P w) P w K mg base ["tree", "last", "more"] "_law_heard" (defScope s__law_heard) T.a__law_heard cdv A outer s H E).A (cxOf (L2.CX P w) P w K mg base ["tree", "last", "more"] "_law_heard" (defScope s__law_heard) T.a__law_heard cdv A outer s H E).env (cxOf (L2.CX P w) P w K mg base ["tree", "last", "more"] "_law_heard" (defScope s__law_heard) T.a__law_heard cdv A outer s H E).xe := passes_of rfl
  have hu : (A.deeper (PyProof.Rows.envOfC "_law_heard" (defScope s__law_heard) s.heap.objs.size T.a__law_heard cdv)).units + 64 < cLine := hr.units
  have hu5 : (A.deeper (PyProof.Rows.envOfC "_law_heard" (defScope s__law_heard) s.heap.objs.size T.a__law_heard cdv)).units + 65 < cLine := by have := hr.un; omega
  have nd : (["tree", "last", "more"] : List Str).Nodup := sc__law_heard.nd
  exact (sss_cons (ss_if (st_cmp (op_eqA hu) sem_eq (SE.so (se_ix (so_slot (pv 0)) (SE.so se_int) (fun _ _ => rfl))) (SE.so se_str) (nomark _)) (sss_one (ss_ret se_int)) sss_nil)
    (sss_cons (ss_set (i := 2) nd rfl (Or.inl rfl) (se_callT1 call_int1 sem_int (by rfl) T.n_int (by decide +kernel) (SE.so (se_cmp (op_neA hu) sem_ne (SE.so (se_ix (so_slot (pv 0)) (SE.so se_int) (fun _ _ => rfl))) (so_slot (pv 1)) (nomark _)))))
    (sss_one (ss_ret (se_op op_addA sem_add (so_slot (pv 2)) (SE.so (se_callB2 (call_max2 rfl) sem_max2 (by rfl) T.n_max (by decide +kernel) (SE.so (se_call G__law_heard hr (by rfl) T.g__law_heard T.F__law_heard.kp T.b__law_heard tk (sar_d (se_ix (so_slot (pv 0)) (SE.so se_int) (fun _ _ => rfl)) (sar_d (se_ix (so_slot (pv 0)) (SE.so se_int) (fun _ _ => rfl)) sar_nil)))) (SE.so (se_call G__law_heard hr (by rfl) T.g__law_heard T.F__law_heard.kp T.b__law_heard tk (sar_d (se_ix (so_slot (pv 0)) (SE.so se_int) (fun _ _ => rfl)) (sar_d (se_ix (so_slot (pv 0)) (SE.so se_int) (fun _ _ => rfl)) sar_nil))))))))))))
theorem sc__law_bent : FnScope ["tree", "bag", "at", "way"] ["tree", "bag"] (defScope s__law_bent) := ⟨rfl, rfl, rfl, by decide +kernel, rfl, by decide +kernel, by decide +kernel⟩
def b__law_bent (r__law_bent : Fn) : M Z.Flow :=
  mseq (mifS (mbool (mop2 eqD (.val (mop2 idxD (.slot 0) (.val (mpure (.int 0))))) (.val (mpure (.str "end"))))) (mret (mtup (mcons (mpure (.str "say")) (mcons (mcall m__law_draw [.io 1, .d (mpure (.int 2))]) (mcons (mtup (mcons (mpure (.int 0)) (mpure []))) (mcons (mval 0) (mcons (mtup (mcons (mpure (.str "end")) (mcons (mpure (.int 1)) (mpure [])))) (mpure [])))))))) (mnx))
  (mseq (mset 2 (mcall m__law_draw [.io 1, .d (mpure (.int 9))]))
  (mseq (mset 3 (mop2 addD (.val (mpure (.int 3))) (.val (mop2 modD (.val (mop1 intD (.slot 2))) (.val (mpure (.int 2)))))))
  (mseq (mifS (mbool (mop2 eqD (.val (mop2 idxD (.val (mop2 idxD (.slot 0) (.slot 3))) (.val (mpure (.int 0))))) (.val (mpure (.str "end"))))) (mset 3 (mop2 subD (.val (mpure (.int 7))) (.slot 3))) (mnx))
  (mseq (mifS (mor (mbool (mop2 eqD (.slot 2) (.val (mpure (.int 0))))) (mbool (mop2 eqD (.val (mop2 idxD (.val (mop2 idxD (.slot 0) (.slot 3))) (.val (mpure (.int 0))))) (.val (mpure (.str "end")))))) (mret (mtup (mcons (mpure (.str "say")) (mcons (mop2 subD (.val (mpure (.int 1))) (.val (mop2 idxD (.slot 0) (.val (mpure (.int 1)))))) (mcons (mop2 idxD (.slot 0) (.val (mpure (.int 2)))) (mcons (mop2 idxD (.slot 0) (.val (mpure (.int 3)))) (mcons (mop2 idxD (.slot 0) (.val (mpure (.int 4)))) (mpure [])))))))) (mnx))
  (mseq (mifS (mbool (mop2 eqD (.slot 3) (.val (mpure (.int 3))))) (mret (mtup (mcons (mpure (.str "say")) (mcons (mop2 idxD (.slot 0) (.val (mpure (.int 1)))) (mcons (mop2 idxD (.slot 0) (.val (mpure (.int 2)))) (mcons (mcall r__law_bent [.d (mop2 idxD (.slot 0) (.val (mpure (.int 3)))), .io 1]) (mcons (mop2 idxD (.slot 0) (.val (mpure (.int 4)))) (mpure [])))))))) (mnx))
  (mret (mtup (mcons (mpure (.str "say")) (mcons (mop2 idxD (.slot 0) (.val (mpure (.int 1)))) (mcons (mop2 idxD (.slot 0) (.val (mpure (.int 2)))) (mcons (mop2 idxD (.slot 0) (.val (mpure (.int 3)))) (mcons (mcall r__law_bent [.d (mop2 idxD (.slot 0) (.val (mpure (.int 4)))), .io 1]) (mpure [])))))))))))))
def m__law_bent : Nat → Fn
  | 0 => fun _ => .bad
  | n + 1 => runBody 4 (b__law_bent (m__law_bent n))
theorem ok__law_bent (T : Txt K mg) : ∀ n : Nat, FnOk P w K mg base (L2.CX P w) (2 + n) T.a__law_bent T.fd__law_bent ["tree", "bag"] (spM K mg 2 (m__law_bent n))
  | 0 => fn_bad
  | n + 1 => by
    have G__law_bent := ok__law_bent T n
    exact fn_ok (k := 2 + n) T.F__law_bent sc__law_bent (fun cdv A outer s H E hr => by
  have tk : Takes (cxOf (L2.CX P w) P w K mg base ["tree", "bag", "at", "way"] "_law_bent" (defScope s__law_bent) T.a__law_bent cdv A outer s H E) (fun cls d _ H => E cls d H) := takes_of rfl rfl rfl rfl
  have hp : PassesOwn (model (cxOf (L2.CX P w) P w K mg base ["tree", "bag", "at", "way"] "_law_bent" (defScope s__law_bent) T.a__law_bent cdv A outer s H E).prog (cxOf (L2.CX P w) P w K mg base ["tree", "bag", "at", "way"] "_law_bent" (defScope s__law_bent) T.a__law_bent cdv A outer s H E).w) (cxOf (L2.CX P w) P w K mg base ["tree", "bag", "at", "way"] "_law_bent" (defScope s__law_bent) T.a__law_bent cdv A outer s H E).A (cxOf (L2.CX P w) P w K mg base ["tree", "bag", "at", "way"] "_law_bent" (defScope s__law_bent) T.a__law_bent cdv A outer s H E).env (cxOf (L2.CX P w) P w K mg base ["tree", "bag", "at", "way"] "_law_bent" (defScope s__law_bent) T.a__law_bent cdv A outer s H E).xe := passes_of rfl
  have hu : (A.deeper (PyProof.Rows.envOfC "_law_bent" (defScope s__law_bent) s.heap.objs.size T.a__law_bent cdv)).units + 64 < cLine := hr.units
  have hu5 : (A.deeper (PyProof.Rows.envOfC "_law_bent" (defScope s__law_bent) s.heap.objs.size T.a__law_bent cdv)).units + 65 < cLine := by have := hr.un; omega
  have nd : (["tree", "bag", "at", "way"] : List Str).Nodup := sc__law_bent.nd
  exact (sss_cons (ss_if (st_cmp (op_eqA hu) sem_eq (SE.so (se_ix (so_slot (pv 0)) (SE.so se_int) (fun _ _ => rfl))) (SE.so se_str) (nomark _)) (sss_one (ss_ret (se_tup (sa_cons se_str (sa_cons (se_call ((ok__law_draw T).mono (Nat.le_add_right_of_le (by decide))) hr (by rfl) T.g__law_draw T.F__law_draw.kp T.b__law_draw tk (sar_io (pv 1) (sar_d se_int sar_nil))) (sa_cons (se_tup (sa_cons se_int sa_nil)) (sa_cons (se_val (pv 0)) (sa_cons (se_tup (sa_cons se_str (sa_cons se_int sa_nil))) sa_nil)))))))) sss_nil)
    (sss_cons (ss_set (i := 2) nd rfl (Or.inl rfl) (se_call ((ok__law_draw T).mono (Nat.le_add_right_of_le (by decide))) hr (by rfl) T.g__law_draw T.F__law_draw.kp T.b__law_draw tk (sar_io (pv 1) (sar_d se_int sar_nil))))
    (sss_cons (ss_set (i := 3) nd rfl (Or.inl rfl) (se_op op_addA sem_add (SE.so se_int) (SE.so (se_op op_mod sem_mod (SE.so (se_callT1 call_int1 sem_int (by rfl) T.n_int (by decide +kernel) (so_slot (pv 2)))) (SE.so se_int)))))
    (sss_cons (ss_if (st_cmp (op_eqA hu) sem_eq (SE.so (se_ix (SE.so (se_ix (so_slot (pv 0)) (so_slot (pv 3)) (fun _ _ => rfl))) (SE.so se_int) (fun _ _ => rfl))) (SE.so se_str) (nomark _)) (sss_one (ss_set (i := 3) nd rfl (Or.inl rfl) (se_op op_sub sem_sub (SE.so se_int) (so_slot (pv 3))))) sss_nil)
    (sss_cons (ss_if (SW.st (sw_or (st_cmp (op_eqA hu) sem_eq (so_slot (pv 2)) (SE.so se_int) (nomark _)) (sw_or1 (st_cmp (op_eqA hu) sem_eq (SE.so (se_ix (SE.so (se_ix (so_slot (pv 0)) (so_slot (pv 3)) (fun _ _ => rfl))) (SE.so se_int) (fun _ _ => rfl))) (SE.so se_str) (nomark _))))) (sss_one (ss_ret (se_tup (sa_cons se_str (sa_cons (se_op op_sub sem_sub (SE.so se_int) (SE.so (se_ix (so_slot (pv 0)) (SE.so se_int) (fun _ _ => rfl)))) (sa_cons (se_ix (so_slot (pv 0)) (SE.so se_int) (fun _ _ => rfl)) (sa_cons (se_ix (so_slot (pv 0)) (SE.so se_int) (fun _ _ => rfl)) (sa_cons (se_ix (so_slot (pv 0)) (SE.so se_int) (fun _ _ => rfl)) sa_nil)))))))) sss_nil)
    (sss_cons (ss_if (st_cmp (op_eqA hu) sem_eq (so_slot (pv 3)) (SE.so se_int) (nomark _)) (sss_one (ss_ret (se_tup (sa_cons se_str (sa_cons (se_ix (so_slot (pv 0)) (SE.so se_int) (fun _ _ => rfl)) (sa_cons (se_ix (so_slot (pv 0)) (SE.so se_int) (fun _ _ => rfl)) (sa_cons (se_call G__law_bent hr (by rfl) T.g__law_bent T.F__law_bent.kp T.b__law_bent tk (sar_d (se_ix (so_slot (pv 0)) (SE.so se_int) (fun _ _ => rfl)) (sar_io (pv 1) sar_nil))) (sa_cons (se_ix (so_slot (pv 0)) (SE.so se_int) (fun _ _ => rfl)) sa_nil)))))))) sss_nil)
    (sss_one (ss_ret (se_tup (sa_cons se_str (sa_cons (se_ix (so_slot (pv 0)) (SE.so se_int) (fun _ _ => rfl)) (sa_cons (se_ix (so_slot (pv 0)) (SE.so se_int) (fun _ _ => rfl)) (sa_cons (se_ix (so_slot (pv 0)) (SE.so se_int) (fun _ _ => rfl)) (sa_cons (se_call G__law_bent hr (by rfl) T.g__law_bent T.F__law_bent.kp T.b__law_bent tk (sar_d (se_ix (so_slot (pv 0)) (SE.so se_int) (fun _ _ => rfl)) (sar_io (pv 1) sar_nil))) sa_nil)))))))))))))))
theorem sc__law_other : FnScope ["tree", "turn", "lot", "first"] ["tree", "turn", "lot"] (defScope s__law_other) := ⟨rfl, rfl, rfl, by decide +kernel, rfl, by decide +kernel, by decide +kernel⟩
def b__law_other (r__law_other : Fn) : M Z.Flow :=
  mseq (mifS (mbool (mop2 eqD (.val (mop2 idxD (.slot 0) (.val (mpure (.int 0))))) (.val (mpure (.str "end"))))) (mret (mtup (mcons (mpure (.str "end")) (mcons (mpure (.int 7)) (mpure []))))) (mnx))
  (mseq (mset 3 (mcall r__law_other [.d (mop2 idxD (.slot 0) (.val (mpure (.int 3)))), .d (mval 1), .d (mval 2)]))
  (mret (mtup (mcons (mpure (.str "say")) (mcons (mop2 xorD (.slot 1) (.val (mop2 idxD (.slot 0) (.val (mpure (.int 1)))))) (mcons (mval 2) (mcons (mval 3) (mcons (mcall r__law_other [.d (mop2 idxD (.slot 0) (.val (mpure (.int 4)))), .d (mval 1), .d (mval 2)]) (mpure [])))))))))
def m__law_other : Nat → Fn
  | 0 => fun _ => .bad
  | n + 1 => runBody 4 (b__law_other (m__law_other n))
theorem ok__law_other (T : Txt K mg) : ∀ n : Nat, FnOk P w K mg base (L2.CX P w) (0 + n) T.a__law_other T.fd__law_other ["tree", "turn", "lot"] (spM K mg 3 (m__law_other n))
  | 0 => fn_bad
  | n + 1 => by
    have G__law_other := ok__law_other T n
    exact fn_ok (k := 0 + n) T.F__law_other sc__law_other (fun cdv A outer s H E hr => by
  have tk : Takes (cxOf (L2.CX P w) P w K mg base ["tree", "turn", "lot", "first"] "_law_other" (defScope s__law_other) T.a__law_other cdv A outer s H E) (fun cls d _ H => E cls d H) := takes_of rfl rfl rfl rfl
  have hp : PassesOwn (model (cxOf (L2.CX P w) P w K mg base ["tree", "turn", "lot", "first"] "_law_other" (defScope s__law_other) T.a__law_other cdv A outer s H E).prog (cxOf (L2.CX P w) P w K mg base ["tree", "turn", "lot", "first"] "_law_other" (defScope s__law_other) T.a__law_other cdv A outer s H E).w) (cxOf (L2.CX P w) P w K mg base ["tree", "turn", "lot", "first"] "_law_other" (defScope s__law_other) T.a__law_other cdv A outer s H E).A (cxOf (L2.CX P w) P w K mg base ["tree", "turn", "lot", "first"] "_law_other" (defScope s__law_other) T.a__law_other cdv A outer s H E).env (cxOf (L2.CX P w) P w K mg base ["tree", "turn", "lot", "first"] "_law_other" (defScope s__law_other) T.a__law_other cdv A outer s H E).xe := passes_of rfl
  have hu : (A.deeper (PyProof.Rows.envOfC "_law_other" (defScope s__law_other) s.heap.objs.size T.a__law_other cdv)).units + 64 < cLine := hr.units
  have hu5 : (A.deeper (PyProof.Rows.envOfC "_law_other" (defScope s__law_other) s.heap.objs.size T.a__law_other cdv)).units + 65 < cLine := by have := hr.un; omega
  have nd : (["tree", "turn", "lot", "first"] : List Str).Nodup := sc__law_other.nd
  exact (sss_cons (ss_if (st_cmp (op_eqA hu) sem_eq (SE.so (se_ix (so_slot (pv 0)) (SE.so se_int) (fun _ _ => rfl))) (SE.so se_str) (nomark _)) (sss_one (ss_ret (se_tup (sa_cons se_str (sa_cons se_int sa_nil))))) sss_nil)
    (sss_cons (ss_set (i := 3) nd rfl (Or.inl rfl) (se_call G__law_other hr (by rfl) T.g__law_other T.F__law_other.kp T.b__law_other tk (sar_d (se_ix (so_slot (pv 0)) (SE.so se_int) (fun _ _ => rfl)) (sar_d (se_val (pv 1)) (sar_d (se_val (pv 2)) sar_nil)))))
    (sss_one (ss_ret (se_tup (sa_cons se_str (sa_cons (se_op op_xor sem_xor (so_slot (pv 1)) (SE.so (se_ix (so_slot (pv 0)) (SE.so se_int) (fun _ _ => rfl)))) (sa_cons (se_val (pv 2)) (sa_cons (se_val (pv 3)) (sa_cons (se_call G__law_other hr (by rfl) T.g__law_other T.F__law_other.kp T.b__law_other tk (sar_d (se_ix (so_slot (pv 0)) (SE.so se_int) (fun _ _ => rfl)) (sar_d (se_val (pv 1)) (sar_d (se_val (pv 2)) sar_nil)))) sa_nil)))))))))))
theorem sc__law_asked : FnScope ["tree"] ["tree"] (defScope s__law_asked) := ⟨rfl, rfl, rfl, by decide +kernel, rfl, by decide +kernel, by decide +kernel⟩
def b__law_asked : M Z.Flow :=
  mret (mcall (m__law_same 40) [.d (mcall m_sides_heard [.d (mval 0)]), .d (mcall (m__law_heard 40) [.d (mval 0), .d (mop2 subD (.val (mpure (.int 0))) (.val (mpure (.int 1))))])])
def m__law_asked : Fn := runBody 1 b__law_asked
theorem ok__law_asked (T : Txt K mg) : FnOk P w K mg base (L2.CX P w) 42 T.a__law_asked T.fd__law_asked ["tree"] (spM K mg 1 m__law_asked) :=
  fn_ok (k := 41) T.F__law_asked sc__law_asked (fun cdv A outer s H E hr => by
  have tk : Takes (cxOf (L2.CX P w) P w K mg base ["tree"] "_law_asked" (defScope s__law_asked) T.a__law_asked cdv A outer s H E) (fun cls d _ H => E cls d H) := takes_of rfl rfl rfl rfl
  have hp : PassesOwn (model (cxOf (L2.CX P w) P w K mg base ["tree"] "_law_asked" (defScope s__law_asked) T.a__law_asked cdv A outer s H E).prog (cxOf (L2.CX P w) P w K mg base ["tree"] "_law_asked" (defScope s__law_asked) T.a__law_asked cdv A outer s H E).w) (cxOf (L2.CX P w) P w K mg base ["tree"] "_law_asked" (defScope s__law_asked) T.a__law_asked cdv A outer s H E).A (cxOf (L2.CX P w) P w K mg base ["tree"] "_law_asked" (defScope s__law_asked) T.a__law_asked cdv A outer s H E).env (cxOf (L2.CX P w) P w K mg base ["tree"] "_law_asked" (defScope s__law_asked) T.a__law_asked cdv A outer s H E).xe := passes_of rfl
  have hu : (A.deeper (PyProof.Rows.envOfC "_law_asked" (defScope s__law_asked) s.heap.objs.size T.a__law_asked cdv)).units + 64 < cLine := hr.units
  have hu5 : (A.deeper (PyProof.Rows.envOfC "_law_asked" (defScope s__law_asked) s.heap.objs.size T.a__law_asked cdv)).units + 65 < cLine := by have := hr.un; omega
  have nd : (["tree"] : List Str).Nodup := sc__law_asked.nd
  exact (sss_one (ss_ret (se_call ((ok__law_same T 40).mono (by decide)) hr (by rfl) T.g__law_same T.F__law_same.kp T.b__law_same tk (sar_d (se_call ((ok_sides_heard T).mono (by decide)) hr (by rfl) T.g_sides_heard T.F_sides_heard.kp T.b_sides_heard tk (sar_d (se_val (pv 0)) sar_nil)) (sar_d (se_call ((ok__law_heard T 40).mono (by decide)) hr (by rfl) T.g__law_heard T.F__law_heard.kp T.b__law_heard tk (sar_d (se_val (pv 0)) (sar_d (se_op op_sub sem_sub (SE.so se_int) (SE.so se_int)) sar_nil))) sar_nil))))))
theorem sc__law_walk : FnScope ["tree", "pair", "told", "k", "bit"] ["tree", "pair"] (defScope s__law_walk) := ⟨rfl, rfl, rfl, by decide +kernel, rfl, by decide +kernel, by decide +kernel⟩
def b__law_walk : M Z.Flow :=
  mseq (mset 2 (mpure (.str "")))
  (mseq (mforS (mrng rng1 (mcons (mpure (.int 40)) (mpure []))) (gnm 3) (mseq (mifS (mbool (mop2 eqD (.val (mop2 idxD (.slot 0) (.val (mpure (.int 0))))) (.val (mpure (.str "end"))))) (mpure .bk) (mnx))
  (mseq (mset 4 (mop1 intD (.val (mop2 inD (.val (mop2 idxD (.slot 1) (.val (mop2 idxD (.slot 0) (.val (mpure (.int 1))))))) (.val (mop2 idxD (.slot 0) (.val (mpure (.int 2)))))))))
  (mseq (mset 2 (mop2 addD (.slot 2) (.val (mop1 strD (.slot 4)))))
  (mset 0 (mop2 idxD (.slot 0) (.val (mop2 addD (.val (mpure (.int 3))) (.slot 4)))))))))
  (mret (mval 2)))
def m__law_walk : Fn := runBody 5 b__law_walk
theorem ok__law_walk (T : Txt K mg) : FnOk P w K mg base (L2.CX P w) 1 T.a__law_walk T.fd__law_walk ["tree", "pair"] (spM K mg 2 m__law_walk) :=
  fn_ok (k := 0) T.F__law_walk sc__law_walk (fun cdv A outer s H E hr => by
  have tk : Takes (cxOf (L2.CX P w) P w K mg base ["tree", "pair", "told", "k", "bit"] "_law_walk" (defScope s__law_walk) T.a__law_walk cdv A outer s H E) (fun cls d _ H => E cls d H) := takes_of rfl rfl rfl rfl
  have hp : PassesOwn (model (cxOf (L2.CX P w) P w K mg base ["tree", "pair", "told", "k", "bit"] "_law_walk" (defScope s__law_walk) T.a__law_walk cdv A outer s H E).prog (cxOf (L2.CX P w) P w K mg base ["tree", "pair", "told", "k", "bit"] "_law_walk" (defScope s__law_walk) T.a__law_walk cdv A outer s H E).w) (cxOf (L2.CX P w) P w K mg base ["tree", "pair", "told", "k", "bit"] "_law_walk" (defScope s__law_walk) T.a__law_walk cdv A outer s H E).A (cxOf (L2.CX P w) P w K mg base ["tree", "pair", "told", "k", "bit"] "_law_walk" (defScope s__law_walk) T.a__law_walk cdv A outer s H E).env (cxOf (L2.CX P w) P w K mg base ["tree", "pair", "told", "k", "bit"] "_law_walk" (defScope s__law_walk) T.a__law_walk cdv A outer s H E).xe := passes_of rfl
  have hu : (A.deeper (PyProof.Rows.envOfC "_law_walk" (defScope s__law_walk) s.heap.objs.size T.a__law_walk cdv)).units + 64 < cLine := hr.units
  have hu5 : (A.deeper (PyProof.Rows.envOfC "_law_walk" (defScope s__law_walk) s.heap.objs.size T.a__law_walk cdv)).units + 65 < cLine := by have := hr.un; omega
  have nd : (["tree", "pair", "told", "k", "bit"] : List Str).Nodup := sc__law_walk.nd
  exact (sss_cons (ss_set (i := 2) nd rfl (Or.inl rfl) se_str)
    (sss_cons (ss_for1 (js := [3]) hp rfl (si_range1 (by rfl) T.n_range (sa_cons se_int sa_nil)) (sg_name (i := 3) (by decide) (pg_name (i := 3) nd rfl (by first | exact Or.inl rfl | exact Or.inr rfl))) (sss_cons (ss_if (st_cmp (op_eqA hu) sem_eq (SE.so (se_ix (so_slot (pv 0)) (SE.so se_int) (fun _ _ => rfl))) (SE.so se_str) (nomark _)) (sss_one ss_break) sss_nil)
    (sss_cons (ss_set (i := 4) nd rfl (Or.inl rfl) (se_callT1 call_int1 sem_int (by rfl) T.n_int (by decide +kernel) (SE.so (se_cmp (op_inA hu5) sem_in (SE.so (se_ix (so_slot (pv 1)) (SE.so (se_ix (so_slot (pv 0)) (SE.so se_int) (fun _ _ => rfl))) (fun _ _ => rfl))) (SE.so (se_ix (so_slot (pv 0)) (SE.so se_int) (fun _ _ => rfl))) (by rfl)))))
    (sss_cons (ss_set (i := 2) nd rfl (Or.inl rfl) (se_op op_addA sem_add (so_slot (pv 2)) (SE.so (se_callT1 call_str_int sem_str (by rfl) T.n_str (by decide +kernel) (so_slot (pv 4))))))
    (sss_one (ss_set (i := 0) nd rfl (Or.inl rfl) (se_ix (so_slot (pv 0)) (SE.so (se_op op_addA sem_add (SE.so se_int) (so_slot (pv 4)))) (fun _ _ => rfl))))))))
    (sss_one (ss_ret (se_val (pv 2)))))))
theorem sc__law_words : FnScope ["tree", "bag", "k", "by", "pair"] ["tree", "bag"] (defScope s__law_words) := ⟨rfl, rfl, rfl, by decide +kernel, rfl, by decide +kernel, by decide +kernel⟩
def b__law_words : M Z.Flow :=
  mseq (mforS (mrng rng1 (mcons (mpure (.int 4)) (mpure []))) (gnm 2) (mseq (mset 3 (mop2 idxD (.val (mbind (mlst (mcons (mpure (.int 0)) (mcons (mpure (.int 0)) (mcons (mpure (.int 90)) (mpure []))))) fun ds => mpure (.lst ds))) (.val (mcall m__law_draw [.io 1, .d (mpure (.int 3))]))))
  (mseq (mset 4 (mtup (mcons (mop2 addD (.slot 3) (.val (mcall m__law_draw [.io 1, .d (mpure (.int 10))]))) (mcons (mcall m__law_draw [.io 1, .d (mpure (.int 10))]) (mpure [])))))
  (mseq (mifS (mbool (mop2 eqD (.val (mcall m__law_draw [.io 1, .d (mpure (.int 2))])) (.val (mpure (.int 1))))) (mset 4 (mtup (mcons (mop2 idxD (.slot 4) (.val (mpure (.int 1)))) (mcons (mop2 idxD (.slot 4) (.val (mpure (.int 0)))) (mpure []))))) (mnx))
  (mifS (mnot (mtru (.val (mcall (m__law_same 40) [.d (mcall m_tree_bits [.d (mval 0), .d (mval 4)]), .d (mcall m__law_walk [.d (mval 0), .d (mval 4)])])))) (mret (mpure (.bl false))) (mnx))))))
  (mret (mpure (.bl true)))
def m__law_words : Fn := runBody 5 b__law_words
theorem ok__law_words (T : Txt K mg) : FnOk P w K mg base (L2.CX P w) 42 T.a__law_words T.fd__law_words ["tree", "bag"] (spM K mg 2 m__law_words) :=
  fn_ok (k := 41) T.F__law_words sc__law_words (fun cdv A outer s H E hr => by
  have tk : Takes (cxOf (L2.CX P w) P w K mg base ["tree", "bag", "k", "by", "pair"] "_law_words" (defScope s__law_words) T.a__law_words cdv A outer s H E) (fun cls d _ H => E cls d H) := takes_of rfl rfl rfl rfl
  have hp : PassesOwn (model (cxOf (L2.CX P w) P w K mg base ["tree", "bag", "k", "by", "pair"] "_law_words" (defScope s__law_words) T.a__law_words cdv A outer s H E).prog (cxOf (L2.CX P w) P w K mg base ["tree", "bag", "k", "by", "pair"] "_law_words" (defScope s__law_words) T.a__law_words cdv A outer s H E).w) (cxOf (L2.CX P w) P w K mg base ["tree", "bag", "k", "by", "pair"] "_law_words" (defScope s__law_words) T.a__law_words cdv A outer s H E).A (cxOf (L2.CX P w) P w K mg base ["tree", "bag", "k", "by", "pair"] "_law_words" (defScope s__law_words) T.a__law_words cdv A outer s H E).env (cxOf (L2.CX P w) P w K mg base ["tree", "bag", "k", "by", "pair"] "_law_words" (defScope s__law_words) T.a__law_words cdv A outer s H E).xe := passes_of rfl
  have hu : (A.deeper (PyProof.Rows.envOfC "_law_words" (defScope s__law_words) s.heap.objs.size T.a__law_words cdv)).units + 64 < cLine := hr.units
  have hu5 : (A.deeper (PyProof.Rows.envOfC "_law_words" (defScope s__law_words) s.heap.objs.size T.a__law_words cdv)).units + 65 < cLine := by have := hr.un; omega
  have nd : (["tree", "bag", "k", "by", "pair"] : List Str).Nodup := sc__law_words.nd
  exact (sss_cons (ss_for1 (js := [2]) hp rfl (si_range1 (by rfl) T.n_range (sa_cons se_int sa_nil)) (sg_name (i := 2) (by decide) (pg_name (i := 2) nd rfl (by first | exact Or.inl rfl | exact Or.inr rfl))) (sss_cons (ss_set (i := 3) nd rfl (Or.inl rfl) (se_ix (SE.so (SF.se (sf_lst (sa_cons se_int (sa_cons se_int (sa_cons se_int sa_nil)))))) (SE.so (se_call ((ok__law_draw T).mono (by decide)) hr (by rfl) T.g__law_draw T.F__law_draw.kp T.b__law_draw tk (sar_io (pv 1) (sar_d se_int sar_nil)))) (fun _ _ => rfl)))
    (sss_cons (ss_set (i := 4) nd rfl (Or.inl rfl) (se_tup (sa_cons (se_op op_addA sem_add (so_slot (pv 3)) (SE.so (se_call ((ok__law_draw T).mono (by decide)) hr (by rfl) T.g__law_draw T.F__law_draw.kp T.b__law_draw tk (sar_io (pv 1) (sar_d se_int sar_nil))))) (sa_cons (se_call ((ok__law_draw T).mono (by decide)) hr (by rfl) T.g__law_draw T.F__law_draw.kp T.b__law_draw tk (sar_io (pv 1) (sar_d se_int sar_nil))) sa_nil))))
    (sss_cons (ss_if (st_cmp (op_eqA hu) sem_eq (SE.so (se_call ((ok__law_draw T).mono (by decide)) hr (by rfl) T.g__law_draw T.F__law_draw.kp T.b__law_draw tk (sar_io (pv 1) (sar_d se_int sar_nil)))) (SE.so se_int) (nomark _)) (sss_one (ss_set (i := 4) nd rfl (Or.inl rfl) (se_tup (sa_cons (se_ix (so_slot (pv 4)) (SE.so se_int) (fun _ _ => rfl)) (sa_cons (se_ix (so_slot (pv 4)) (SE.so se_int) (fun _ _ => rfl)) sa_nil))))) sss_nil)
    (sss_one (ss_if (st_not (st_tru (SE.so (se_call ((ok__law_same T 40).mono (by decide)) hr (by rfl) T.g__law_same T.F__law_same.kp T.b__law_same tk (sar_d (se_call ((ok_tree_bits T).mono (by decide)) hr (by rfl) T.g_tree_bits T.F_tree_bits.kp T.b_tree_bits tk (sar_d (se_val (pv 0)) (sar_d (se_val (pv 4)) sar_nil))) (sar_d (se_call ((ok__law_walk T).mono (by decide)) hr (by rfl) T.g__law_walk T.F__law_walk.kp T.b__law_walk tk (sar_d (se_val (pv 0)) (sar_d (se_val (pv 4)) sar_nil))) sar_nil)))) (by intro _; rfl))) (sss_one (ss_ret se_bl)) sss_nil))))))
    (sss_one (ss_ret se_bl))))
theorem sc__law_close : FnScope ["bag", "end", "one", "two", "three", "runs", "scenes", "scene"] ["bag"] (defScope s__law_close) := ⟨rfl, rfl, rfl, by decide +kernel, rfl, by decide +kernel, by decide +kernel⟩
def b__law_close : M Z.Flow :=
  mseq (mset 1 (mtup (mcons (mpure (.str "end")) (mcons (mpure (.int 1)) (mpure [])))))
  (mseq (mset 2 (mtup (mcons (mpure (.str "say")) (mcons (mpure (.int 0)) (mcons (mtup (mcons (mpure (.int 1)) (mpure []))) (mcons (mval 1) (mcons (mtup (mcons (mpure (.str "end")) (mcons (mpure (.int 2)) (mpure [])))) (mpure []))))))))
  (mseq (mset 3 (mtup (mcons (mpure (.str "say")) (mcons (mpure (.int 1)) (mcons (mtup (mcons (mpure (.int 0)) (mcons (mpure (.int 2)) (mpure [])))) (mcons (mval 2) (mcons (mval 1) (mpure []))))))))
  (mseq (mset 4 (mtup (mcons (mpure (.str "say")) (mcons (mpure (.int 0)) (mcons (mtup (mpure [])) (mcons (mval 1) (mcons (mval 3) (mpure []))))))))
  (mseq (mset 5 (mtup (mcons (mpure (.str "say")) (mcons (mpure (.int 1)) (mcons (mtup (mcons (mpure (.int 1)) (mpure []))) (mcons (mval 1) (mcons (mtup (mcons (mpure (.str "say")) (mcons (mpure (.int 1)) (mcons (mtup (mcons (mpure (.int 2)) (mpure []))) (mcons (mval 1) (mcons (mtup (mcons (mpure (.str "say")) (mcons (mpure (.int 1)) (mcons (mtup (mcons (mpure (.int 3)) (mpure []))) (mcons (mval 1) (mcons (mtup (mcons (mpure (.str "say")) (mcons (mpure (.int 1)) (mcons (mtup (mpure [])) (mcons (mval 1) (mcons (mval 1) (mpure []))))))) (mpure []))))))) (mpure []))))))) (mpure []))))))))
  (mseq (mset 6 (mbind (mlst (mcons (mtup (mcons (mval 1) (mcons (mpure (.int 0)) (mpure [])))) (mcons (mtup (mcons (mval 2) (mcons (mpure (.int 1)) (mpure [])))) (mcons (mtup (mcons (mval 3) (mcons (mpure (.int 2)) (mpure [])))) (mcons (mtup (mcons (mval 4) (mcons (mpure (.int 3)) (mpure [])))) (mcons (mtup (mcons (mval 5) (mcons (mpure (.int 1)) (mpure [])))) (mcons (mtup (mcons (mtup (mcons (mpure (.str "say")) (mcons (mpure (.int 1)) (mcons (mtup (mcons (mpure (.int 4)) (mpure []))) (mcons (mval 5) (mcons (mval 2) (mpure []))))))) (mcons (mpure (.int 2)) (mpure [])))) (mpure [])))))))) fun ds => mpure (.lst ds)))
  (mseq (mset 6 (mbind (mop2F catL (.slot 6) (.val (mbind (mlst (mcons (mtup (mcons (mtup (mcons (mpure (.str "say")) (mcons (mpure (.int 0)) (mcons (mtup (mcons (mpure (.int 0)) (mpure []))) (mcons (mval 2) (mcons (mval 2) (mpure []))))))) (mcons (mpure (.int 1)) (mpure [])))) (mcons (mtup (mcons (mtup (mcons (mpure (.str "say")) (mcons (mpure (.int 0)) (mcons (mtup (mcons (mpure (.int 0)) (mpure []))) (mcons (mval 5) (mcons (mval 4) (mpure []))))))) (mcons (mpure (.int 3)) (mpure [])))) (mcons (mtup (mcons (mtup (mcons (mpure (.str "say")) (mcons (mpure (.int 1)) (mcons (mtup (mpure [])) (mcons (mval 2) (mcons (mval 4) (mpure []))))))) (mcons (mpure (.int 4)) (mpure [])))) (mpure []))))) fun ds => mpure (.lst ds)))) fun ds => mpure (.lst ds)))
  (mseq (mset 7 (mop2 idxD (.slot 6) (.val (mcall m__law_draw [.io 0, .d (mop1 lenD (.slot 6))]))))
  (mret (mcall (m__law_same 40) [.d (mcall m_sides_heard [.d (mop2 idxD (.slot 7) (.val (mpure (.int 0))))]), .d (mop2 idxD (.slot 7) (.val (mpure (.int 1))))])))))))))
def m__law_close : Fn := runBody 8 b__law_close
theorem ok__law_close (T : Txt K mg) : FnOk P w K mg base (L2.CX P w) 42 T.a__law_close T.fd__law_close ["bag"] (spM K mg 1 m__law_close) :=
  fn_ok (k := 41) T.F__law_close sc__law_close (fun cdv A outer s H E hr => by
  have tk : Takes (cxOf (L2.CX P w) P w K mg base ["bag", "end", "one", "two", "three", "runs", "scenes", "scene"] "_law_close" (defScope s__law_close) T.a__law_close cdv A outer s H E) (fun cls d _ H => E cls d H) := takes_of rfl rfl rfl rfl
  have hp : PassesOwn (model (cxOf (L2.CX P w) P w K mg base ["bag", "end", "one", "two", "three", "runs", "scenes", "scene"] "_law_close" (defScope s__law_close) T.a__law_close cdv A outer s H E).prog (cxOf (L2.CX P w) P w K mg base ["bag", "end", "one", "two", "three", "runs", "scenes", "scene"] "_law_close" (defScope s__law_close) T.a__law_close cdv A outer s H E).w) (cxOf (L2.CX P w) P w K mg base ["bag", "end", "one", "two", "three", "runs", "scenes", "scene"] "_law_close" (defScope s__law_close) T.a__law_close cdv A outer s H E).A (cxOf (L2.CX P w) P w K mg base ["bag", "end", "one", "two", "three", "runs", "scenes", "scene"] "_law_close" (defScope s__law_close) T.a__law_close cdv A outer s H E).env (cxOf (L2.CX P w) P w K mg base ["bag", "end", "one", "two", "three", "runs", "scenes", "scene"] "_law_close" (defScope s__law_close) T.a__law_close cdv A outer s H E).xe := passes_of rfl
  have hu : (A.deeper (PyProof.Rows.envOfC "_law_close" (defScope s__law_close) s.heap.objs.size T.a__law_close cdv)).units + 64 < cLine := hr.units
  have hu5 : (A.deeper (PyProof.Rows.envOfC "_law_close" (defScope s__law_close) s.heap.objs.size T.a__law_close cdv)).units + 65 < cLine := by have := hr.un; omega
  have nd : (["bag", "end", "one", "two", "three", "runs", "scenes", "scene"] : List Str).Nodup := sc__law_close.nd
  exact (sss_cons (ss_set (i := 1) nd rfl (Or.inl rfl) (se_tup (sa_cons se_str (sa_cons se_int sa_nil))))
    (sss_cons (ss_set (i := 2) nd rfl (Or.inl rfl) (se_tup (sa_cons se_str (sa_cons se_int (sa_cons (se_tup (sa_cons se_int sa_nil)) (sa_cons (se_val (pv 1)) (sa_cons (se_tup (sa_cons se_str (sa_cons se_int sa_nil))) sa_nil)))))))
    (sss_cons (ss_set (i := 3) nd rfl (Or.inl rfl) (se_tup (sa_cons se_str (sa_cons se_int (sa_cons (se_tup (sa_cons se_int (sa_cons se_int sa_nil))) (sa_cons (se_val (pv 2)) (sa_cons (se_val (pv 1)) sa_nil)))))))
    (sss_cons (ss_set (i := 4) nd rfl (Or.inl rfl) (se_tup (sa_cons se_str (sa_cons se_int (sa_cons (se_tup sa_nil) (sa_cons (se_val (pv 1)) (sa_cons (se_val (pv 3)) sa_nil)))))))
    (sss_cons (ss_set (i := 5) nd rfl (Or.inl rfl) (se_tup (sa_cons se_str (sa_cons se_int (sa_cons (se_tup (sa_cons se_int sa_nil)) (sa_cons (se_val (pv 1)) (sa_cons (se_tup (sa_cons se_str (sa_cons se_int (sa_cons (se_tup (sa_cons se_int sa_nil)) (sa_cons (se_val (pv 1)) (sa_cons (se_tup (sa_cons se_str (sa_cons se_int (sa_cons (se_tup (sa_cons se_int sa_nil)) (sa_cons (se_val (pv 1)) (sa_cons (se_tup (sa_cons se_str (sa_cons se_int (sa_cons (se_tup sa_nil) (sa_cons (se_val (pv 1)) (sa_cons (se_val (pv 1)) sa_nil)))))) sa_nil)))))) sa_nil)))))) sa_nil)))))))
    (sss_cons (ss_set (i := 6) nd rfl (Or.inl rfl) (SF.se (sf_lst (sa_cons (se_tup (sa_cons (se_val (pv 1)) (sa_cons se_int sa_nil))) (sa_cons (se_tup (sa_cons (se_val (pv 2)) (sa_cons se_int sa_nil))) (sa_cons (se_tup (sa_cons (se_val (pv 3)) (sa_cons se_int sa_nil))) (sa_cons (se_tup (sa_cons (se_val (pv 4)) (sa_cons se_int sa_nil))) (sa_cons (se_tup (sa_cons (se_val (pv 5)) (sa_cons se_int sa_nil))) (sa_cons (se_tup (sa_cons (se_tup (sa_cons se_str (sa_cons se_int (sa_cons (se_tup (sa_cons se_int sa_nil)) (sa_cons (se_val (pv 5)) (sa_cons (se_val (pv 2)) sa_nil)))))) (sa_cons se_int sa_nil))) sa_nil)))))))))
    (sss_cons (ss_set (i := 6) nd rfl (Or.inl rfl) (SF.se (sf_op op_cat sem_cat (so_slot (pv 6)) (SE.so (SF.se (sf_lst (sa_cons (se_tup (sa_cons (se_tup (sa_cons se_str (sa_cons se_int (sa_cons (se_tup (sa_cons se_int sa_nil)) (sa_cons (se_val (pv 2)) (sa_cons (se_val (pv 2)) sa_nil)))))) (sa_cons se_int sa_nil))) (sa_cons (se_tup (sa_cons (se_tup (sa_cons se_str (sa_cons se_int (sa_cons (se_tup (sa_cons se_int sa_nil)) (sa_cons (se_val (pv 5)) (sa_cons (se_val (pv 4)) sa_nil)))))) (sa_cons se_int sa_nil))) (sa_cons (se_tup (sa_cons (se_tup (sa_cons se_str (sa_cons se_int (sa_cons (se_tup sa_nil) (sa_cons (se_val (pv 2)) (sa_cons (se_val (pv 4)) sa_nil)))))) (sa_cons se_int sa_nil))) sa_nil)))))))))
    (sss_cons (ss_set (i := 7) nd rfl (Or.inl rfl) (se_ix (so_slot (pv 6)) (SE.so (se_call ((ok__law_draw T).mono (by decide)) hr (by rfl) T.g__law_draw T.F__law_draw.kp T.b__law_draw tk (sar_io (pv 0) (sar_d (se_callB1 call_len sem_len (by rfl) T.n_len (by decide +kernel) (so_slot (pv 6))) sar_nil)))) (fun _ _ => rfl)))
    (sss_one (ss_ret (se_call ((ok__law_same T 40).mono (by decide)) hr (by rfl) T.g__law_same T.F__law_same.kp T.b__law_same tk (sar_d (se_call ((ok_sides_heard T).mono (by decide)) hr (by rfl) T.g_sides_heard T.F_sides_heard.kp T.b_sides_heard tk (sar_d (se_ix (so_slot (pv 7)) (SE.so se_int) (fun _ _ => rfl)) sar_nil)) (sar_d (se_ix (so_slot (pv 7)) (SE.so se_int) (fun _ _ => rfl)) sar_nil))))))))))))))
theorem sc_law : FnScope ["script", "bag", "tree", "bent", "lots", "lot", "small"] ["script"] (defScope s_law) := ⟨rfl, rfl, rfl, by decide +kernel, rfl, by decide +kernel, by decide +kernel⟩
def b_law : M Z.Flow :=
  mseq (msetF 1 (mcallF m__law_bag [.d (mval 0)]))
  (mseq (mset 2 (mcall m__law_tree [.io 1]))
  (mseq (mifS (mor (mnot (mtru (.val (mcall m__law_asked [.d (mval 2)])))) (mnot (mtru (.val (mcall m__law_words [.d (mval 2), .io 1]))))) (mret (mpure (.bl false))) (mnx))
  (mseq (mset 3 (mcall (m__law_bent 40) [.d (mval 2), .io 1]))
  (mseq (mifS (mor (mnot (mtru (.val (mcall m__law_asked [.d (mval 3)])))) (mnot (mtru (.val (mcall m__law_words [.d (mval 3), .io 1]))))) (mret (mpure (.bl false))) (mnx))
  (mseq (mset 4 (mbind (mlst (mcons (mtup (mpure [])) (mcons (mtup (mcons (mpure (.int 0)) (mpure []))) (mcons (mtup (mcons (mpure (.int 0)) (mcons (mpure (.int 1)) (mcons (mpure (.int 2)) (mcons (mpure (.int 3)) (mcons (mpure (.int 4)) (mpure []))))))) (mcons (mtup (mcons (mpure (.int 3)) (mcons (mpure (.int 99)) (mpure [])))) (mpure [])))))) fun ds => mpure (.lst ds)))
  (mseq (mset 5 (mop2 idxD (.slot 4) (.val (mcall m__law_draw [.io 1, .d (mpure (.int 4))]))))
  (mseq (mifS (mor (mnot (mtru (.val (mcall m__law_asked [.d (mcall (m__law_other 40) [.d (mval 2), .d (mpure (.int 0)), .d (mval 5)])])))) (mnot (mtru (.val (mcall m__law_asked [.d (mcall (m__law_other 40) [.d (mval 3), .d (mpure (.int 1)), .d (mval 5)])]))))) (mret (mpure (.bl false))) (mnx))
  (mseq (mifS (mand (mbool (mop2 eqD (.val (mop2 idxD (.slot 3) (.val (mpure (.int 0))))) (.val (mpure (.str "say"))))) (mor (mnot (mtru (.val (mcall m__law_asked [.d (mop2 idxD (.slot 3) (.val (mpure (.int 3))))])))) (mnot (mtru (.val (mcall m__law_asked [.d (mop2 idxD (.slot 3) (.val (mpure (.int 4))))])))))) (mret (mpure (.bl false))) (mnx))
  (mseq (mset 6 (mcall (m__law_grown 40) [.io 1, .d (mcall m__law_draw [.io 1, .d (mpure (.int 5))]), .d (mpure (.int 20)), .d (mop2 subD (.val (mpure (.int 0))) (.val (mpure (.int 1)))), .d (mpure (.int 0)), .d (mpure (.int 0))]))
  (mseq (mifS (mor (mnot (mtru (.val (mcall m__law_asked [.d (mval 6)])))) (mnot (mtru (.val (mcall m__law_words [.d (mval 6), .io 1]))))) (mret (mpure (.bl false))) (mnx))
  (mret (mandV (mcall m__law_close [.io 1]) (mcall m__law_asked [.d (mval 2)])))))))))))))
def m_law : Fn := runBody 7 b_law
theorem ok_law (T : Txt K mg) : FnOk P w K mg base (L2.CX P w) 45 T.a_law T.fd_law ["script"] (spM K mg 1 m_law) :=
  fn_ok (k := 44) T.F_law sc_law (fun cdv A outer s H E hr => by
  have tk : Takes (cxOf (L2.CX P w) P w K mg base ["script", "bag", "tree", "bent", "lots", "lot", "small"] "law" (defScope s_law) T.a_law cdv A outer s H E) (fun cls d _ H => E cls d H) := takes_of rfl rfl rfl rfl
  have hp : PassesOwn (model (cxOf (L2.CX P w) P w K mg base ["script", "bag", "tree", "bent", "lots", "lot", "small"] "law" (defScope s_law) T.a_law cdv A outer s H E).prog (cxOf (L2.CX P w) P w K mg base ["script", "bag", "tree", "bent", "lots", "lot", "small"] "law" (defScope s_law) T.a_law cdv A outer s H E).w) (cxOf (L2.CX P w) P w K mg base ["script", "bag", "tree", "bent", "lots", "lot", "small"] "law" (defScope s_law) T.a_law cdv A outer s H E).A (cxOf (L2.CX P w) P w K mg base ["script", "bag", "tree", "bent", "lots", "lot", "small"] "law" (defScope s_law) T.a_law cdv A outer s H E).env (cxOf (L2.CX P w) P w K mg base ["script", "bag", "tree", "bent", "lots", "lot", "small"] "law" (defScope s_law) T.a_law cdv A outer s H E).xe := passes_of rfl
  have hu : (A.deeper (PyProof.Rows.envOfC "law" (defScope s_law) s.heap.objs.size T.a_law cdv)).units + 64 < cLine := hr.units
  have hu5 : (A.deeper (PyProof.Rows.envOfC "law" (defScope s_law) s.heap.objs.size T.a_law cdv)).units + 65 < cLine := by have := hr.un; omega
  have nd : (["script", "bag", "tree", "bent", "lots", "lot", "small"] : List Str).Nodup := sc_law.nd
  exact (sss_cons (ss_setF (i := 1) nd rfl (Or.inl rfl) (sf_call ((ok__law_bag T).mono (by decide)) hr (by rfl) T.g__law_bag T.F__law_bag.kp T.b__law_bag tk (sar_d (se_val (pv 0)) sar_nil)))
    (sss_cons (ss_set (i := 2) nd rfl (Or.inl rfl) (se_call ((ok__law_tree T).mono (by decide)) hr (by rfl) T.g__law_tree T.F__law_tree.kp T.b__law_tree tk (sar_io (pv 1) sar_nil)))
    (sss_cons (ss_if (SW.st (sw_or (st_not (st_tru (SE.so (se_call ((ok__law_asked T).mono (by decide)) hr (by rfl) T.g__law_asked T.F__law_asked.kp T.b__law_asked tk (sar_d (se_val (pv 2)) sar_nil))) (by intro _; rfl))) (sw_or1 (st_not (st_tru (SE.so (se_call ((ok__law_words T).mono (by decide)) hr (by rfl) T.g__law_words T.F__law_words.kp T.b__law_words tk (sar_d (se_val (pv 2)) (sar_io (pv 1) sar_nil)))) (by intro _; rfl)))))) (sss_one (ss_ret se_bl)) sss_nil)
    (sss_cons (ss_set (i := 3) nd rfl (Or.inl rfl) (se_call ((ok__law_bent T 40).mono (by decide)) hr (by rfl) T.g__law_bent T.F__law_bent.kp T.b__law_bent tk (sar_d (se_val (pv 2)) (sar_io (pv 1) sar_nil))))
    (sss_cons (ss_if (SW.st (sw_or (st_not (st_tru (SE.so (se_call ((ok__law_asked T).mono (by decide)) hr (by rfl) T.g__law_asked T.F__law_asked.kp T.b__law_asked tk (sar_d (se_val (pv 3)) sar_nil))) (by intro _; rfl))) (sw_or1 (st_not (st_tru (SE.so (se_call ((ok__law_words T).mono (by decide)) hr (by rfl) T.g__law_words T.F__law_words.kp T.b__law_words tk (sar_d (se_val (pv 3)) (sar_io (pv 1) sar_nil)))) (by intro _; rfl)))))) (sss_one (ss_ret se_bl)) sss_nil)
    (sss_cons (ss_set (i := 4) nd rfl (Or.inl rfl) (SF.se (sf_lst (sa_cons (se_tup sa_nil) (sa_cons (se_tup (sa_cons se_int sa_nil)) (sa_cons (se_tup (sa_cons se_int (sa_cons se_int (sa_cons se_int (sa_cons se_int (sa_cons se_int sa_nil)))))) (sa_cons (se_tup (sa_cons se_int (sa_cons se_int sa_nil))) sa_nil)))))))
    (sss_cons (ss_set (i := 5) nd rfl (Or.inl rfl) (se_ix (so_slot (pv 4)) (SE.so (se_call ((ok__law_draw T).mono (by decide)) hr (by rfl) T.g__law_draw T.F__law_draw.kp T.b__law_draw tk (sar_io (pv 1) (sar_d se_int sar_nil)))) (fun _ _ => rfl)))
    (sss_cons (ss_if (SW.st (sw_or (st_not (st_tru (SE.so (se_call ((ok__law_asked T).mono (by decide)) hr (by rfl) T.g__law_asked T.F__law_asked.kp T.b__law_asked tk (sar_d (se_call ((ok__law_other T 40).mono (by decide)) hr (by rfl) T.g__law_other T.F__law_other.kp T.b__law_other tk (sar_d (se_val (pv 2)) (sar_d se_int (sar_d (se_val (pv 5)) sar_nil)))) sar_nil))) (by intro _; rfl))) (sw_or1 (st_not (st_tru (SE.so (se_call ((ok__law_asked T).mono (by decide)) hr (by rfl) T.g__law_asked T.F__law_asked.kp T.b__law_asked tk (sar_d (se_call ((ok__law_other T 40).mono (by decide)) hr (by rfl) T.g__law_other T.F__law_other.kp T.b__law_other tk (sar_d (se_val (pv 3)) (sar_d se_int (sar_d (se_val (pv 5)) sar_nil)))) sar_nil))) (by intro _; rfl)))))) (sss_one (ss_ret se_bl)) sss_nil)
    (sss_cons (ss_if (SW.st (sw_and (st_cmp (op_eqA hu) sem_eq (SE.so (se_ix (so_slot (pv 3)) (SE.so se_int) (fun _ _ => rfl))) (SE.so se_str) (nomark _)) (sw_and1 (SW.st (sw_or (st_not (st_tru (SE.so (se_call ((ok__law_asked T).mono (by decide)) hr (by rfl) T.g__law_asked T.F__law_asked.kp T.b__law_asked tk (sar_d (se_ix (so_slot (pv 3)) (SE.so se_int) (fun _ _ => rfl)) sar_nil))) (by intro _; rfl))) (sw_or1 (st_not (st_tru (SE.so (se_call ((ok__law_asked T).mono (by decide)) hr (by rfl) T.g__law_asked T.F__law_asked.kp T.b__law_asked tk (sar_d (se_ix (so_slot (pv 3)) (SE.so se_int) (fun _ _ => rfl)) sar_nil))) (by intro _; rfl))))))))) (sss_one (ss_ret se_bl)) sss_nil)
    (sss_cons (ss_set (i := 6) nd rfl (Or.inl rfl) (se_call ((ok__law_grown T 40).mono (by decide)) hr (by rfl) T.g__law_grown T.F__law_grown.kp T.b__law_grown tk (sar_io (pv 1) (sar_d (se_call ((ok__law_draw T).mono (by decide)) hr (by rfl) T.g__law_draw T.F__law_draw.kp T.b__law_draw tk (sar_io (pv 1) (sar_d se_int sar_nil))) (sar_d se_int (sar_d (se_op op_sub sem_sub (SE.so se_int) (SE.so se_int)) (sar_d se_int (sar_d se_int sar_nil))))))))
    (sss_cons (ss_if (SW.st (sw_or (st_not (st_tru (SE.so (se_call ((ok__law_asked T).mono (by decide)) hr (by rfl) T.g__law_asked T.F__law_asked.kp T.b__law_asked tk (sar_d (se_val (pv 6)) sar_nil))) (by intro _; rfl))) (sw_or1 (st_not (st_tru (SE.so (se_call ((ok__law_words T).mono (by decide)) hr (by rfl) T.g__law_words T.F__law_words.kp T.b__law_words tk (sar_d (se_val (pv 6)) (sar_io (pv 1) sar_nil)))) (by intro _; rfl)))))) (sss_one (ss_ret se_bl)) sss_nil)
    (sss_one (ss_ret (se_and (se_call ((ok__law_close T).mono (by decide)) hr (by rfl) T.g__law_close T.F__law_close.kp T.b__law_close tk (sar_io (pv 1) sar_nil)) (se_one (se_call ((ok__law_asked T).mono (by decide)) hr (by rfl) T.g__law_asked T.F__law_asked.kp T.b__law_asked tk (sar_d (se_val (pv 2)) sar_nil))))))))))))))))))
end G

namespace MAIN
open PySem L2 Z
local macro_rules | `(tactic| walk_at "zs") => `(tactic| try simp (disch := first | omega | decide | (simp only [List.length_cons, List.length_nil, List.length_append, List.length_map]; omega)) only [wp_pure, wp_bad, wp_bind, wp_opt, optQ_some, optQ_none, wp_get, wp_own, wp_val, wp_store, wp_gnm, wp_put,
  getQ_d, getQ_own, ownQ_own, valQ_d, valQ_own, valO_own, setQ_d, setQ_own, setQ_none, setQ_m, truD_bl, putQ_own, wp_op2vv, wp_op2sv, wp_op2vs, wp_op2ss, wp_op1v, wp_op1s, wp_op2Fvv, wp_op2Fsv, wp_op2Fvs, wp_op2Fss, wp_op1Fv, wp_op1Fs,
  wp_bool, wp_truv, wp_trus, wp_ite, wp_and, wp_or, wp_not, wp_andV, wp_orV, wp_notV, wp_if, wp_cons, wp_tup, wp_lst, wp_rng, wp_items, wp_rev, wp_cutv, wp_cuts, wp_cutLv, wp_cutLs, cutT_tup, cutLL_lst, cutLL_kls, toI_int,
  wp_seq, seqQ_nx, seqQ_rt, seqQ_rf, seqQ_bk, seqQ_ct, wp_nx, wp_do, wp_ret, wp_retF, wp_retO, wp_set, wp_setF, wp_ifS, wp_setIx, wp_meth1, wp_meth0, wp_asg, wp_gnil, wp_gcons, wp_gtup, wp_forS, wp_for_nil, wp_for_cons,
  turnQ_nx, turnQ_ct, turnQ_bk, turnQ_rt, turnQ_rf, wp_args_nil, wp_args_d, wp_args_tmp, wp_args_io, rvD_d, rvF_f, wp_call, wp_callF, endQ_nx, endQ_rt, endQ_rf,
  rng1_, rng2_, add_int, sub_int, mul_l, mul_r, div_int, mod_int, shr_int, shl_int, pow_int, and_int, or_int, xor_int, neg_int, eq_int, eq_str, eq_bl, ne_int, ne_str, ne_bl, lt_int, le_int, gt_int, ge_int, isN, notN, isNonD, toB_bl, len_tup, len_lst, len_kls, int_int, int_bl,
  tuple_lst, tuple_tup, list_lst, list_tup, max2_int, min2_int, idx_tup, idx_lst, idx_kls, atI_0, atI_1, atI_2, atI_3, atI_4, Int.reduceToNat, rng1_2, wp_comp, add_str, in_tup, str_0, str_1, isi_, isi2_, isB, app_, setIx_0, setIx_1, setIx_2, items_lst, items_tup, items_kls, tru_int, tru_tup, tru_lst, eq_non_int, eq_int_non, ne_non_int, ne_int_non, isNon_int, isNon_str, isNon_tup, isNon_lst, isNon_bl, isNon_non, setIx_3, setIx_4, setIx_5, abs_int, wback,
  List.getElem?_cons_zero, List.getElem?_cons_succ, List.set_cons_zero, List.set_cons_succ, List.map_cons, List.map_nil, List.length_cons, List.length_nil, List.take_succ_cons, List.take_zero, List.take_nil, List.cons_append, List.nil_append, List.replicate_succ, List.replicate_zero,
  Nat.reduceAdd, Nat.reduceSub, Nat.reduceLeDiff, Nat.zero_add, Nat.sub_self, Nat.add_zero, decide_true, decide_false, decide_eq_true_eq, Bool.not_eq_true', decide_eq_false_iff_not, Bool.true_and, Bool.false_and, Bool.and_true, Bool.and_false, Bool.or_true, Bool.or_false, Bool.true_or, Bool.false_or, Bool.not_true, Bool.not_false, ifQ_t, ifQ_f, ite_true, ite_false, Bool.false_eq_true, reduceIte, true_and, and_true, and_self, Nat.le_refl])
local macro_rules | `(tactic| walk_at "z0") => `(tactic| simp only [List.map_cons, List.map_nil, List.length_cons, List.length_nil, List.cons_append, List.nil_append, List.replicate_succ, List.replicate_zero, Nat.reduceAdd, Nat.reduceSub, Nat.zero_add, Nat.sub_self, Nat.add_zero])
local macro_rules | `(tactic| walk_at "nx") => `(tactic| (refine sq ?_; intro K hK; walk_at "zs"; refine hK _ _ ?_; clear hK; clear K; refine seqQ_nx.mpr ?_))
local macro_rules | `(tactic| walk_at "zg") => `(tactic| (refine wp_gnm.mpr ?_; simp only [setQ_d, setQ_own, setQ_none, setQ_m, List.getElem?_cons_zero, List.getElem?_cons_succ, List.set_cons_zero, List.set_cons_succ, Option.map_none, Option.map_some]))
def M61 : Int := 2305843009213693951
def Bag (w : List D) : Prop := ∃ (cs : List Int) (p r s n : Int), w = [.lst (cs.map D.int), .int p, .int r, .int s, .int n] ∧ 0 ≤ p ∧ 0 ≤ s ∧ s < 2305843009213693951
theorem mixed {s a : Int} {Q : RV → En → Prop} (h0 : 0 ≤ s) (h1 : s < 2305843009213693951)
    (k : ∀ t x y, 0 ≤ t → t < 2305843009213693951 → Q (.d (.int t)) [x, y]) : fwp G.m__law_mixed [.d (.int s), .d (.int a)] Q := by
  unfold G.m__law_mixed G.b__law_mixed
  refine fw fun K0 h00 => ?_
  walk_at "z0"
  refine sq fun K hK => ?_
  walk_at "zs"
  refine hK _ _ (seqQ_nx.mpr ?_)
  clear hK; clear K
  have e1 := Int.emod_nonneg (s * s + a + 40503) (show (2305843009213693951 : Int) ≠ 0 by omega)
  have e2 := Int.emod_lt_of_pos (s * s + a + 40503) (show (0 : Int) < 2305843009213693951 by omega)
  rw [show (2 ^ 61 - 1 : Int) = 2305843009213693951 by decide]
  generalize (s * s + a + 40503) % 2305843009213693951 = m at e1 e2
  walk_at "zs"
  rw [show (2 ^ 61 - 1 : Int) = 2305843009213693951 by decide]
  exact h00 _ _ (k _ _ _ (Int.emod_nonneg _ (by omega)) (Int.emod_lt_of_pos _ (by omega)))
theorem bag {ns : List Int} {Q : RV → En → Prop} (hn : ns.length ≤ 63) (k : ∀ w x, Bag w → Q (.fresh w) [x]) : fwp G.m__law_bag [.d (.kls (ns.map D.int))] Q := by
  unfold G.m__law_bag G.b__law_bag
  refine fw fun K0 h00 => ?_
  walk_at "z0"
  walk_at "zs"
  refine ⟨rfl, ?_⟩
  rw [cutG_map]
  refine wp_cloop_map D.int (fun _ => true) (fun x => .int x) _ (by have := cutG_le ns none (some 63); omega) (fun x hx => ?_) ?_
  · simp only [clr]
    walk_at "zs"
  · simp only [clr, rst]
    walk_at "zs"
    rw [filter_true]
    exact h00 _ _ (k _ _ ⟨_, _, _, _, _, rfl, by omega, by omega, by omega⟩)
theorem draw {w : List D} {b : Int} {Q : RV → En → Prop} (hw : Bag w) (hb : 0 < b) (hb2 : b < 1073741824)
    (k : ∀ t w' x, 0 ≤ t → t < b → Bag w' → Q (.d (.int t)) [some (.own true w'), x]) : fwp G.m__law_draw [.own true w, .d (.int b)] Q := by
  obtain ⟨cs, p, r, s, n, rfl, hp, hs, hs2⟩ := hw
  unfold G.m__law_draw G.b__law_draw
  refine fw fun K0 h0 => ?_
  walk_at "z0"
  walk_at "nx"
  refine sq fun K hK => ?_
  have rest : ∀ (p r s : Int) (a : Option D), 0 ≤ p → 0 ≤ s → s < 2305843009213693951 → K .nx [some (.own true [.lst (cs.map D.int), .int p, .int r, .int s, .int (n + 1)]), some (.d (.int b)), a.map .d, none] := fun p r s a hp hs hs2 => by
    refine hK _ _ (seqQ_nx.mpr ?_)
    clear hK; clear K
    refine sq fun K hK => ?_
    walk_at "zs"
    refine ifQ_d (fun c => ?_) (fun c => ?_)
    · refine hK _ _ (seqQ_rt.mpr (h0 _ _ ?_))
      exact k _ _ _ (Int.emod_nonneg _ (by omega)) (Int.emod_lt_of_pos _ hb) ⟨_, _, _, _, _, rfl, hp, hs, hs2⟩
    · refine hK _ _ (seqQ_nx.mpr ?_)
      refine sq fun K hK => ?_
      walk_at "zs"
      refine mixed hs hs2 fun t x y t0 t1 => ?_
      walk_at "zs"
      refine hK _ _ (seqQ_nx.mpr ?_)
      walk_at "zs"
      exact h0 _ _ (k _ _ _ (Int.emod_nonneg _ (by omega)) (Int.emod_lt_of_pos _ hb) ⟨_, _, _, _, _, rfl, hp, t0, t1⟩)
  walk_at "zs"
  have out := rest p r s none hp hs hs2
  refine ifQ_d (fun _ => ?_) (fun _ => out)
  refine ifQ_d (fun c => ?_) (fun _ => out)
  obtain ⟨v, e, _⟩ := atI_ints (ns := cs) hp (by simpa using c)
  rw [e]
  walk_at "zs"
  refine mixed hs hs2 fun t x y t0 t1 => ?_
  walk_at "zs"
  refine ifQ_d (fun _ => ?_) (fun _ => ?_)
  · exact rest _ _ _ (some _) (by omega) t0 t1
  · exact rest _ _ _ (some _) (by omega) t0 t1
theorem lot {w : List D} {Q : RV → En → Prop} (hw : Bag w) (k : ∀ (ns : List Int) w', Bag w' → Q (.d (.tup (ns.map D.int))) [some (.own true w')]) : fwp G.m__law_lot [.own true w] Q := by
  unfold G.m__law_lot G.b__law_lot
  refine fw fun K0 h0 => ?_
  walk_at "z0"
  refine sq fun K hK => ?_
  walk_at "zs"
  refine draw hw (by omega) (by omega) fun ma w x m0 m1 hw => ?_
  walk_at "zs"
  refine hK _ _ (seqQ_nx.mpr ?_)
  clear hK; clear K
  refine sq fun K hK => ?_
  walk_at "zs"
  refine draw hw (by omega) (by omega) fun t w _ t0 t1 hw => ?_
  walk_at "zs"
  obtain ⟨l, el, _⟩ := atI_ints (ns := [0, 0, 90]) t0 (by simpa using t1)
  rw [show [D.int 0, D.int 0, D.int 90] = [0, 0, 90].map D.int from rfl, el]
  walk_at "zs"
  refine hK _ _ (seqQ_nx.mpr ?_)
  walk_at "zs"
  refine ⟨rfl, ?_⟩
  rw [rangeL_eq]
  refine wp_cloop_map D.int (fun x => Builtin.bitAnd (ma / 2 ^ x.toNat) 1 != 0) (fun x => .int (l + x)) _ (by rw [ints_length]; omega) (fun x hx => ?_) ?_
  · have := mem_ints hx
    simp only [clr]
    walk_at "zs"
    exact ifQ_of (fun _ => trivial) (fun _ => trivial)
  · simp only [clr, rst]
    walk_at "zs"
    refine h0 _ _ ?_
    have e : ∀ xs : List Int, xs.map (fun x => D.int (l + x)) = (xs.map (l + ·)).map D.int := fun xs => by simp [Function.comp_def]
    rw [e]
    exact k _ _ hw
theorem lend {w : List D} {Q : RV → En → Prop} (hw : Bag w) (k : ∀ (v : D) w', Bag w' → Q (.d (.tup [.str "end", v])) [some (.own true w')]) : fwp G.m__law_end [.own true w] Q := by
  unfold G.m__law_end G.b__law_end
  refine fw fun K0 h0 => ?_
  walk_at "z0"
  refine sq fun K hK => ?_
  walk_at "zs"
  refine draw hw (by omega) (by omega) fun ma w x m0 m1 hw => ?_
  walk_at "zs"
  refine ifQ_d (fun _ => ?_) (fun _ => ?_)
  · refine draw hw (by omega) (by omega) fun a w x _ _ hw => ?_
    walk_at "zs"
    refine draw hw (by omega) (by omega) fun b w x _ _ hw => ?_
    walk_at "zs"
    exact hK _ _ (seqQ_rt.mpr (h0 _ _ (k _ _ hw)))
  · refine hK _ _ (seqQ_nx.mpr ?_)
    walk_at "zs"
    refine draw hw (by omega) (by omega) fun b w x _ _ hw => ?_
    walk_at "zs"
    exact h0 _ _ (k _ _ hw)
def sdI (s : Bool) : Int := if s = true then 1 else 0
def lastI : Option Bool → Int
  | none => -1
  | some s => sdI s
theorem sd_of {t : Int} (h0 : 0 ≤ t) (h1 : t < 2) : ∃ s : Bool, t = sdI s := by
  by_cases h : t = 1
  · exact ⟨true, by rw [h]; rfl⟩
  · exact ⟨false, by show t = 0; omega⟩
theorem sd_le (s : Bool) : 0 ≤ sdI s ∧ sdI s < 2 := by cases s <;> simp [sdI]
theorem side {w : List D} {o : Option Bool} {kd : Int} {Q : RV → En → Prop} (hw : Bag w) (k : ∀ (s : Bool) w' x y, Bag w' → Q (.d (.int (sdI s))) [some (.own true w'), x, y]) : fwp G.m__law_side [.own true w, .d (.int (lastI o)), .d (.int kd)] Q := by
  unfold G.m__law_side G.b__law_side
  refine fw fun K0 h0 => ?_
  walk_at "z0"
  refine sq fun K hK => ?_
  walk_at "zs"
  refine draw hw (by omega) (by omega) fun t w x t0 t1 hw => ?_
  obtain ⟨s, rfl⟩ := sd_of t0 t1
  walk_at "zs"
  refine hK _ _ (seqQ_nx.mpr ?_)
  clear hK; clear K
  refine sq fun K hK => ?_
  walk_at "zs"
  have end1 : K (Flow.rt (.int (sdI s))) [some (SV.own true w), some (SV.d (D.int (lastI o))), some (SV.d (D.int kd)), some (SV.d (D.int (sdI s)))] := hK _ _ (seqQ_rt.mpr (h0 _ _ (k _ _ _ _ hw)))
  refine ifQ_d (fun _ => end1) (fun hl => ?_)
  refine ifQ_d (fun _ => end1) (fun hk => ?_)
  refine hK _ _ (seqQ_nx.mpr ?_)
  clear end1 hK; clear K
  cases o with
  | none => exact absurd (by decide : lastI none < 0) hl
  | some l =>
    have e1 : (1 : Int) - lastI (some l) = sdI (!l) := by cases l <;> rfl
    have e2 : lastI (some l) = sdI l := rfl
    refine sq fun K hK => ?_
    have rest : ∀ w, Bag w → K .nx [some (SV.own true w), some (SV.d (D.int (lastI (some l)))), some (SV.d (D.int kd)), some (SV.d (D.int (sdI s)))] := fun w hw => by
      refine hK _ _ (seqQ_nx.mpr ?_)
      clear hK; clear K
      refine sq fun K hK => ?_
      have rest : ∀ w, Bag w → K .nx [some (SV.own true w), some (SV.d (D.int (lastI (some l)))), some (SV.d (D.int kd)), some (SV.d (D.int (sdI s)))] := fun w hw => by
        refine hK _ _ (seqQ_nx.mpr ?_)
        walk_at "zs"
        exact h0 _ _ (k _ _ _ _ hw)
      walk_at "zs"
      refine ifQ_d (fun _ => ?_) (fun _ => rest _ hw)
      refine draw hw (by omega) (by omega) fun t w x t0 t1 hw => ?_
      walk_at "zs"
      refine ifQ_d (fun _ => ?_) (fun _ => rest _ hw)
      exact hK _ _ (seqQ_rt.mpr (h0 _ _ (k l _ _ _ hw)))
    walk_at "zs"
    refine ifQ_d (fun _ => ?_) (fun _ => rest _ hw)
    refine draw hw (by omega) (by omega) fun t w x t0 t1 hw => ?_
    walk_at "zs"
    rw [e1]
    refine ifQ_d (fun _ => ?_) (fun _ => rest _ hw)
    exact hK _ _ (seqQ_rt.mpr (h0 _ _ (k (!l) _ _ _ hw)))

/-! ### trees -/
inductive Tr where
  | fin (a : D) | say (s : Bool) (lot : List Int) (l r : Tr)
def Tr.enc : Tr → D
  | .fin a => .tup [.str "end", a]
  | .say s lot l r => .tup [.str "say", .int (sdI s), .tup (lot.map D.int), l.enc, r.enc]
def Tr.dep : Tr → Nat
  | .fin _ => 0
  | .say _ _ l r => max l.dep r.dep + 1
theorem grown (n : Nat) : ∀ {w : List D} {sy : Int} {m : Nat} {o : Option Bool} {kd sh : Int} {Q : RV → En → Prop}, Bag w → 0 ≤ sy → sy < 1000 → m < n → (∀ (t : Tr) w' a b c d e, t.dep ≤ m → Bag w' → Q (.d t.enc) [some (.own true w'), a, b, c, d, e]) →
    fwp (G.m__law_grown n) [.own true w, .d (.int sy), .d (.int m), .d (.int (lastI o)), .d (.int kd), .d (.int sh)] Q := by
  induction n with
  | zero => intro w sy m o kd sh Q _ _ _ h; omega
  | succ n ih =>
    intro w sy m o kd sh Q hw hs0 hs1 hm k
    unfold G.m__law_grown G.b__law_grown
    refine fw fun K0 h0 => ?_
    walk_at "z0"
    refine sq fun K hK => ?_
    have fin : ∀ w, Bag w → fwp G.m__law_end [SV.own true w] fun rv outs => rvD rv fun x => optQ (wback [Arg.io 0] outs [some (SV.own true w), some (.d (.int sy)), some (.d (.int m)), some (.d (.int (lastI o))), some (.d (.int kd)), some (.d (.int sh)), none, none, none, none]) fun ρ2 => K (.rt x) ρ2 := fun w hw => by
      refine lend hw fun v w hw => ?_
      walk_at "zs"
      exact hK _ _ (seqQ_rt.mpr (h0 _ _ (k (.fin v) _ _ _ _ _ _ (Nat.zero_le _) hw)))
    walk_at "zs"
    refine ifQ_d (fun _ => fin w hw) (fun hsy => ?_)
    refine ifQ_d (fun _ => fin w hw) (fun hdp => ?_)
    clear fin
    obtain ⟨m', rfl⟩ : ∃ m', m = m' + 1 := ⟨m - 1, by omega⟩
    have em : (((m' + 1 : Nat) : Int) - 1) = (m' : Int) := by omega
    refine hK _ _ (seqQ_nx.mpr ?_)
    clear hK; clear K
    refine sq fun K hK => ?_
    walk_at "zs"
    refine side hw fun s w _ _ hw => ?_
    walk_at "zs"
    refine hK _ _ (seqQ_nx.mpr ?_)
    clear hK; clear K
    refine sq fun K hK => ?_
    walk_at "zs"
    refine draw hw (by omega) (by omega) fun lf w _ l0 l1 hw => ?_
    walk_at "zs"
    refine hK _ _ (seqQ_nx.mpr ?_)
    clear hK; clear K
    refine sq fun K hK => ?_
    have rest : ∀ lf w, 0 ≤ lf → lf ≤ sy - 1 → Bag w → K .nx [some (SV.own true w), some (.d (.int sy)), some (.d (.int ((m' + 1 : Nat) : Int))), some (.d (.int (lastI o))), some (.d (.int kd)), some (.d (.int sh)), some (.d (.int (sdI s))), some (.d (.int lf)), none, none] := fun lf w l0 l1 hw => by
      refine hK _ _ (seqQ_nx.mpr ?_)
      clear hK; clear K
      refine sq fun K hK => ?_
      walk_at "zs"
      refine lot hw fun lo w hw => ?_
      walk_at "zs"
      refine hK _ _ (seqQ_nx.mpr ?_)
      clear hK; clear K
      refine sq fun K hK => ?_
      walk_at "zs"
      rw [em]
      refine ih (o := some s) hw l0 (by omega) (by omega) fun l w _ _ _ _ _ hl hw => ?_
      walk_at "zs"
      refine hK _ _ (seqQ_nx.mpr ?_)
      clear hK; clear K
      walk_at "zs"
      rw [em]
      refine ih (o := some s) hw (by omega) (by omega) (by omega) fun r w _ _ _ _ _ hr hw => ?_
      walk_at "zs"
      exact h0 _ _ (k (.say s lo l r) _ _ _ _ _ _ (by simp only [Tr.dep]; omega) hw)
    walk_at "zs"
    refine ifQ_d (fun _ => ?_) (fun _ => rest _ _ l0 (by omega) hw)
    refine draw hw (by omega) (by omega) fun t w _ t0 t1 hw => ?_
    walk_at "zs"
    obtain ⟨v, e, hv⟩ := atI_ints (ns := [0, sy - 1]) t0 (by simpa using t1)
    rw [show [D.int 0, D.int (sy - 1)] = [0, sy - 1].map D.int from rfl, e]
    walk_at "zs"
    have hv : v = 0 ∨ v = sy - 1 := by
      have := List.mem_of_getElem? hv
      simpa using this
    exact rest _ _ (by omega) (by omega) hw
theorem tree {w : List D} {Q : RV → En → Prop} (hw : Bag w) (k : ∀ (t : Tr) w', t.dep ≤ 20 → Bag w' → Q (.d t.enc) [some (.own true w')]) : fwp G.m__law_tree [.own true w] Q := by
  unfold G.m__law_tree G.b__law_tree
  refine fw fun K0 h0 => ?_
  walk_at "z0"
  refine sq fun K hK => ?_
  walk_at "zs"
  refine draw hw (by omega) (by omega) fun sh w _ s0 s1 hw => ?_
  walk_at "zs"
  refine hK _ _ (seqQ_nx.mpr ?_)
  clear hK; clear K
  refine sq fun K hK => ?_
  walk_at "zs"
  refine draw hw (by omega) (by omega) fun a w _ a0 a1 hw => ?_
  walk_at "zs"
  refine draw hw (by omega) (by omega) fun b w _ b0 b1 hw => ?_
  walk_at "zs"
  refine draw hw (by omega) (by omega) fun c w _ c0 c1 hw => ?_
  walk_at "zs"
  refine draw hw (by omega) (by omega) fun t w _ t0 t1 hw => ?_
  walk_at "zs"
  obtain ⟨v, e, hv⟩ := atI_ints (ns := [a, 20, b, 2 + c]) t0 (by simpa using t1)
  rw [show [D.int a, D.int 20, D.int b, D.int (2 + c)] = [a, 20, b, 2 + c].map D.int from rfl, e]
  have hv : v = a ∨ v = 20 ∨ v = b ∨ v = 2 + c := by
    have := List.mem_of_getElem? hv
    simpa using this
  walk_at "zs"
  refine hK _ _ (seqQ_nx.mpr ?_)
  walk_at "zs"
  refine draw hw (by omega) (by omega) fun kd w _ _ _ hw => ?_
  walk_at "zs"
  refine grown 40 (m := 20) (o := none) hw (by omega) (by omega) (by omega) fun t w _ _ _ _ _ ht hw => ?_
  walk_at "zs"
  exact h0 _ _ (k t _ ht hw)
def Tr.hrd : Tr → Option Bool → Int
  | .fin _, _ => 0
  | .say s _ l r, o => (if some s = o then 0 else 1) + max (l.hrd (some s)) (r.hrd (some s))
def lastN : Option Bool → D
  | none => .non
  | some s => .int (sdI s)
theorem sd_eq {s l : Bool} : decide (sdI s = sdI l) = decide (some s = some l) := by cases s <;> cases l <;> rfl
theorem eq_lastN {s : Bool} {o : Option Bool} : eqD (.int (sdI s)) (lastN o) = some (.bl (decide (some s = o))) := by
  cases o with
  | none => rfl
  | some l => show eqD (.int (sdI s)) (.int (sdI l)) = _; rw [eq_int, sd_eq]
theorem eq_lastI {s : Bool} {o : Option Bool} : decide (sdI s = lastI o) = decide (some s = o) := by
  cases o with
  | none => cases s <;> rfl
  | some l => exact sd_eq
theorem eq_lastP {s : Bool} {o : Option Bool} : (sdI s = lastI o) ↔ (some s = o) := by
  have := eq_lastI (s := s) (o := o)
  simpa using this
theorem say_end : decide (("say" : Str) = "end") = false := by decide +kernel
theorem end_say : decide (("end" : Str) = "say") = false := by decide +kernel
theorem stretches (n : Nat) : ∀ {t : Tr} {o : Option Bool} {m : Int} {Q : RV → En → Prop}, t.dep < n → (∀ a b c, Q (.d (.int (m + t.hrd o))) [a, b, c]) → fwp (G.m_stretches n) [.d t.enc, .d (lastN o), .d (.int m)] Q := by
  induction n with
  | zero => intro t o m Q h; omega
  | succ n ih =>
    intro t o m Q ht k
    unfold G.m_stretches G.b_stretches
    refine fw fun K0 h0 => ?_
    walk_at "z0"
    refine sq fun K hK => ?_
    cases t with
    | fin v =>
      simp only [Tr.enc]
      walk_at "zs"
      refine hK _ _ (seqQ_rt.mpr (h0 _ _ ?_))
      have e : m + (Tr.fin v).hrd o = m := by simp only [Tr.hrd, Int.add_zero]
      rw [e] at k
      exact k _ _ _
    | say s lo l r =>
      simp only [Tr.dep] at ht
      simp only [Tr.enc]
      walk_at "zs"
      rw [say_end]
      walk_at "zs"
      refine hK _ _ (seqQ_nx.mpr ?_)
      clear hK; clear K
      refine sq fun K hK => ?_
      have rest : K .nx [some (.d (Tr.say s lo l r).enc), some (.d (lastN o)), some (.d (.int m)), some (.d (.int (if some s = o then m else m + 1)))] := by
        refine hK _ _ (seqQ_nx.mpr ?_)
        simp only [Tr.enc]
        walk_at "zs"
        refine ih (o := some s) (by omega) fun _ _ _ => ?_
        walk_at "zs"
        refine ih (o := some s) (by omega) fun _ _ _ => ?_
        walk_at "zs"
        refine h0 _ _ ?_
        have e : max ((if some s = o then m else m + 1) + l.hrd (some s)) ((if some s = o then m else m + 1) + r.hrd (some s)) = m + (Tr.say s lo l r).hrd o := by
          simp only [Tr.hrd]
          split <;> omega
        rw [e]
        exact k _ _ _
      walk_at "zs"
      rw [eq_lastN]
      walk_at "zs"
      refine ifQ_d (fun c => ?_) (fun c => ?_)
      · rw [if_pos c] at rest; exact rest
      · rw [if_neg c] at rest; exact rest
theorem sides {t : Tr} {Q : RV → En → Prop} (ht : t.dep < 40) (k : ∀ a, Q (.d (.int (t.hrd none))) [a]) : fwp G.m_sides_heard [.d t.enc] Q := by
  unfold G.m_sides_heard G.b_sides_heard
  refine fw fun K0 h0 => ?_
  walk_at "z0"
  walk_at "zs"
  refine stretches 40 (o := none) ht fun _ _ _ => ?_
  walk_at "zs"
  refine h0 _ _ ?_
  rw [Int.zero_add]
  exact k _
theorem heard (n : Nat) : ∀ {t : Tr} {o : Option Bool} {Q : RV → En → Prop}, t.dep < n → (∀ a b, Q (.d (.int (t.hrd o))) [a, b]) → fwp (G.m__law_heard n) [.d t.enc, .d (.int (lastI o))] Q := by
  induction n with
  | zero => intro t o Q h; omega
  | succ n ih =>
    intro t o Q ht k
    unfold G.m__law_heard G.b__law_heard
    refine fw fun K0 h0 => ?_
    walk_at "z0"
    refine sq fun K hK => ?_
    cases t with
    | fin v =>
      simp only [Tr.enc]
      walk_at "zs"
      exact hK _ _ (seqQ_rt.mpr (h0 _ _ (k _ _)))
    | say s lo l r =>
      simp only [Tr.dep] at ht
      simp only [Tr.enc]
      walk_at "zs"
      rw [say_end]
      walk_at "zs"
      refine hK _ _ (seqQ_nx.mpr ?_)
      clear hK; clear K
      refine sq fun K hK => ?_
      walk_at "zs"
      simp only [eq_lastP]
      refine hK _ _ (seqQ_nx.mpr ?_)
      clear hK; clear K
      walk_at "zs"
      refine ih (o := some s) (by omega) fun _ _ => ?_
      walk_at "zs"
      refine ih (o := some s) (by omega) fun _ _ => ?_
      walk_at "zs"
      refine h0 _ _ ?_
      have e : (if ¬ some s = o then (1 : Int) else 0) + max (l.hrd (some s)) (r.hrd (some s)) = (Tr.say s lo l r).hrd o := by
        simp only [Tr.hrd]
        by_cases h : some s = o <;> simp [h]
      rw [e]
      exact k _ _
theorem whole {i : Int} {Q : RV → En → Prop} (k : ∀ a, Q (.d (.bl true)) [a]) : fwp G.m__law_whole [.d (.int i)] Q := by
  unfold G.m__law_whole G.b__law_whole
  refine fw fun K0 h0 => ?_
  walk_at "z0"
  walk_at "zs"
  exact h0 _ _ (k _)
theorem same_int {n : Nat} {i : Int} {Q : RV → En → Prop} (k : ∀ a b, Q (.d (.bl true)) [a, b]) : fwp (G.m__law_same (n + 1)) [.d (.int i), .d (.int i)] Q := by
  unfold G.m__law_same G.b__law_same
  refine fw fun K0 h0 => ?_
  walk_at "z0"
  walk_at "nx"
  walk_at "nx"
  walk_at "nx"
  walk_at "zs"
  refine whole fun _ => ?_
  walk_at "zs"
  exact h0 _ _ (k _ _)
theorem same_str {n : Nat} {i : Str} {Q : RV → En → Prop} (k : ∀ a b, Q (.d (.bl true)) [a, b]) : fwp (G.m__law_same (n + 1)) [.d (.str i), .d (.str i)] Q := by
  unfold G.m__law_same G.b__law_same
  refine fw fun K0 h0 => ?_
  walk_at "z0"
  walk_at "nx"
  walk_at "nx"
  refine sq fun K hK => ?_
  walk_at "zs"
  exact hK _ _ (seqQ_rt.mpr (h0 _ _ (k _ _)))
theorem asked {t : Tr} {Q : RV → En → Prop} (ht : t.dep < 40) (k : ∀ a, Q (.d (.bl true)) [a]) : fwp G.m__law_asked [.d t.enc] Q := by
  unfold G.m__law_asked G.b__law_asked
  refine fw fun K0 h0 => ?_
  walk_at "z0"
  walk_at "zs"
  refine sides ht fun _ => ?_
  walk_at "zs"
  refine heard 40 (o := none) ht fun _ _ => ?_
  walk_at "zs"
  refine same_int fun _ _ => ?_
  walk_at "zs"
  exact h0 _ _ (k _)
theorem other (n : Nat) : ∀ {t : Tr} {o : Bool} {lo : List Int} {Q : RV → En → Prop}, t.dep < n → (∀ (u : Tr) a b c, u.dep ≤ t.dep → Q (.d u.enc) [a, b, c]) → fwp (G.m__law_other n) [.d t.enc, .d (.int (sdI o)), .d (.tup (lo.map D.int))] Q := by
  induction n with
  | zero => intro t o lo Q h; omega
  | succ n ih =>
    intro t o lo Q ht k
    unfold G.m__law_other G.b__law_other
    refine fw fun K0 h0 => ?_
    walk_at "z0"
    refine sq fun K hK => ?_
    cases t with
    | fin v =>
      simp only [Tr.enc]
      walk_at "zs"
      exact hK _ _ (seqQ_rt.mpr (h0 _ _ (k (.fin (.int 7)) _ _ _ (Nat.le_refl _))))
    | say s lo2 l r =>
      simp only [Tr.dep] at ht
      simp only [Tr.enc]
      walk_at "zs"
      rw [say_end]
      walk_at "zs"
      refine hK _ _ (seqQ_nx.mpr ?_)
      clear hK; clear K
      refine sq fun K hK => ?_
      walk_at "zs"
      refine ih (by omega) fun u _ _ _ hu => ?_
      walk_at "zs"
      refine hK _ _ (seqQ_nx.mpr ?_)
      clear hK; clear K
      walk_at "zs"
      refine ih (by omega) fun v _ _ _ hv => ?_
      walk_at "zs"
      have e : Builtin.bitXor (sdI o) (sdI s) = sdI (xor o s) := by cases o <;> cases s <;> decide +kernel
      rw [e]
      exact h0 _ _ (k (.say (xor o s) lo u v) _ _ _ (by simp only [Tr.dep]; omega))
theorem enc_fst {t : Tr} : ∃ (x : Str) (ys : List D), t.enc = .tup (.str x :: ys) ∧ ((x = "end" ∧ ∃ v, t = .fin v) ∨ (x = "say" ∧ ∃ s lo l r, t = .say s lo l r)) := by
  cases t with
  | fin v => exact ⟨_, _, rfl, .inl ⟨rfl, _, rfl⟩⟩
  | say s lo l r => exact ⟨_, _, rfl, .inr ⟨rfl, _, _, _, _, rfl⟩⟩
theorem bent (n : Nat) : ∀ {t : Tr} {w : List D} {Q : RV → En → Prop}, t.dep < n → Bag w → (∀ (u : Tr) w a, u.dep ≤ t.dep + 1 → Bag w → Q (.d u.enc) [a, some (.own true w)]) → fwp (G.m__law_bent n) [.d t.enc, .own true w] Q := by
  induction n with
  | zero => intro t w Q h; omega
  | succ n ih =>
    intro t w Q ht hw k
    unfold G.m__law_bent G.b__law_bent
    refine fw fun K0 h0 => ?_
    walk_at "z0"
    refine sq fun K hK => ?_
    cases t with
    | fin v =>
      simp only [Tr.enc]
      walk_at "zs"
      refine draw hw (by omega) (by omega) fun sd w _ s0 s1 hw => ?_
      obtain ⟨s, rfl⟩ := sd_of s0 s1
      walk_at "zs"
      exact hK _ _ (seqQ_rt.mpr (h0 _ _ (k (.say s [0] (.fin v) (.fin (.int 1))) _ _ (by simp [Tr.dep]) hw)))
    | say s lo l r =>
      simp only [Tr.dep] at ht
      simp only [Tr.enc]
      walk_at "zs"
      rw [say_end]
      walk_at "zs"
      refine hK _ _ (seqQ_nx.mpr ?_)
      clear hK; clear K
      refine sq fun K hK => ?_
      walk_at "zs"
      refine draw hw (by omega) (by omega) fun at_ w _ a0 a1 hw => ?_
      walk_at "zs"
      refine hK _ _ (seqQ_nx.mpr ?_)
      clear hK; clear K
      walk_at "nx"
      refine sq fun K hK => ?_
      have rest : ∀ wy : Int, wy = 3 ∨ wy = 4 → K .nx [some (.d (.tup [.str "say", .int (sdI s), .tup (lo.map D.int), l.enc, r.enc])), some (.own true w), some (.d (.int at_)), some (.d (.int wy))] := fun wy hwy => by
        refine hK _ _ (seqQ_nx.mpr ?_)
        clear hK; clear K
        refine sq fun K hK => ?_
        have neg : K (.rt (.tup [.str "say", .int (1 - sdI s), .tup (lo.map D.int), l.enc, r.enc])) [some (.d (.tup [.str "say", .int (sdI s), .tup (lo.map D.int), l.enc, r.enc])), some (.own true w), some (.d (.int at_)), some (.d (.int wy))] := by
          refine hK _ _ (seqQ_rt.mpr (h0 _ _ ?_))
          have e : 1 - sdI s = sdI (!s) := by cases s <;> rfl
          rw [e]
          exact k (.say (!s) lo l r) _ _ (by simp only [Tr.dep]; omega) hw
        walk_at "zs"
        refine ifQ_d (fun _ => neg) (fun c => ?_)
        rcases hwy with rfl | rfl
        · obtain ⟨x, ys, e, hx⟩ := enc_fst (t := l)
          walk_at "zs"
          rw [e]
          walk_at "zs"
          rw [← e]
          refine ifQ_d (fun _ => neg) (fun c => ?_)
          refine hK _ _ (seqQ_nx.mpr ?_)
          clear hK neg; clear K
          refine sq fun K hK => ?_
          walk_at "zs"
          refine ih (by omega) hw fun u w _ hu hw => ?_
          walk_at "zs"
          exact hK _ _ (seqQ_rt.mpr (h0 _ _ (k (.say s lo u r) _ _ (by simp only [Tr.dep]; omega) hw)))
        · obtain ⟨x, ys, e, hx⟩ := enc_fst (t := r)
          walk_at "zs"
          rw [e]
          walk_at "zs"
          rw [← e]
          refine ifQ_d (fun _ => neg) (fun c => ?_)
          refine hK _ _ (seqQ_nx.mpr ?_)
          clear hK neg; clear K
          refine sq fun K hK => ?_
          walk_at "zs"
          refine hK _ _ (seqQ_nx.mpr ?_)
          walk_at "zs"
          refine ih (by omega) hw fun u w _ hu hw => ?_
          walk_at "zs"
          exact h0 _ _ (k (.say s lo l u) _ _ (by simp only [Tr.dep]; omega) hw)
      have hwy : 3 + at_ % 2 = 3 ∨ 3 + at_ % 2 = 4 := by omega
      rcases hwy with e | e <;> rw [e]
      · obtain ⟨x, ys, el, hx⟩ := enc_fst (t := l)
        walk_at "zs"
        rw [el]
        walk_at "zs"
        rw [← el]
        exact ifQ_d (fun _ => rest 4 (.inr rfl)) (fun _ => rest 3 (.inl rfl))
      · obtain ⟨x, ys, el, hx⟩ := enc_fst (t := r)
        walk_at "zs"
        rw [el]
        walk_at "zs"
        rw [← el]
        exact ifQ_d (fun _ => rest 3 (.inl rfl)) (fun _ => rest 4 (.inr rfl))
def Tr.word (i j : Int) : Tr → Str
  | .fin _ => ""
  | .say s lot l r => if (if s = true then j else i) ∈ lot then "1" ++ r.word i j else "0" ++ l.word i j
def prD (i j : Int) : D := .tup [.int i, .int j]
theorem at_pr {i j : Int} {s : Bool} : atI [D.int i, D.int j] (sdI s) = some (.int (if s = true then j else i)) := by
  cases s
  · exact atI_0
  · exact atI_1
theorem walk {t : Tr} {i j : Int} {Q : RV → En → Prop} (ht : t.dep ≤ 30) (k : ∀ n a b, Q (.d (.tup [.str (t.word i j), n])) [a, b]) : fwp G.m_walk [.d t.enc, .d (prD i j)] Q := by
  unfold G.m_walk G.b_walk
  refine fw fun K0 h0 => ?_
  walk_at "z0"
  walk_at "nx"
  refine sq fun K hK => ?_
  refine wp_while (fun m ρ => ∃ (u : Tr) (acc : Str) (a : Option D), u.dep = m ∧ acc.length + u.dep ≤ 30 ∧ acc ++ u.word i j = t.word i j ∧ ρ = [some (.d u.enc), some (.d (prD i j)), some (.d (.str acc)), a.map .d]) (m := t.dep) (by omega) ⟨t, "", none, rfl, by rw [show ("" : Str).length = 0 from rfl]; omega, str_nil_app _, rfl⟩ ?_
  rintro m ρ ⟨u, acc, a, rfl, hl, hw, rfl⟩
  have hsl : (sizeLine : Nat) = 16777216 := sizeLine_eq
  cases u with
  | fin v =>
    simp only [Tr.enc]
    walk_at "zs"
    rw [end_say]
    walk_at "zs"
    refine hK _ _ (seqQ_nx.mpr ?_)
    walk_at "zs"
    refine h0 _ _ ?_
    simp only [Tr.word, str_app_nil] at hw
    subst hw
    exact k _ _ _
  | say s lot l r =>
    simp only [Tr.enc]
    have z0 : ("0" : Str).length = 1 := by decide +kernel
    have z1 : ("1" : Str).length = 1 := by decide +kernel
    simp only [Tr.dep] at hl
    unfold prD
    walk_at "zs"
    rw [at_pr]
    walk_at "zs"
    simp only [Tr.word] at hw
    by_cases c : (if s = true then j else i) ∈ lot
    · rw [if_pos c] at hw
      simp only [c, decide_true]
      walk_at "zs"
      rw [show (3 + 1 : Int) = 4 from rfl]
      walk_at "zs"
      exact ⟨r.dep, by simp only [Tr.dep]; omega, r, acc ++ "1", some _, rfl, by rw [str_len_app, z1]; omega, by rw [str_app_assoc]; exact hw, rfl⟩
    · rw [if_neg c] at hw
      simp only [c, decide_false]
      walk_at "zs"
      rw [show (3 + 0 : Int) = 3 from rfl]
      walk_at "zs"
      exact ⟨l.dep, by simp only [Tr.dep]; omega, l, acc ++ "0", some _, rfl, by rw [str_len_app, z0]; omega, by rw [str_app_assoc]; exact hw, rfl⟩
theorem tree_bits {t : Tr} {i j : Int} {Q : RV → En → Prop} (ht : t.dep ≤ 30) (k : ∀ a b, Q (.d (.str (t.word i j))) [a, b]) : fwp G.m_tree_bits [.d t.enc, .d (prD i j)] Q := by
  unfold G.m_tree_bits G.b_tree_bits
  refine fw fun K0 h0 => ?_
  walk_at "z0"
  walk_at "zs"
  refine walk ht fun n a b => ?_
  walk_at "zs"
  exact h0 _ _ (k _ _)
theorem lwalk {t : Tr} {i j : Int} {Q : RV → En → Prop} (ht : t.dep ≤ 30) (k : ∀ a b, Q (.d (.str (t.word i j))) [a, b]) : fwp G.m__law_walk [.d t.enc, .d (prD i j)] Q := by
  unfold G.m__law_walk G.b__law_walk
  refine fw fun K0 h0 => ?_
  walk_at "z0"
  walk_at "nx"
  refine sq fun K hK => ?_
  walk_at "zs"
  refine wp_for (fun pre post ρ => ∃ (u : Tr) (acc : Str) (a b : Option D), u.dep < post.length ∧ acc.length ≤ pre.length ∧ acc ++ u.word i j = t.word i j ∧ ρ = [some (.d u.enc), some (.d (prD i j)), some (.d (.str acc)), a.map .d, b.map .d]) _ ⟨t, "", none, none, by rw [rangeL_length]; omega, Nat.zero_le _, str_nil_app _, rfl⟩ ?_ ?_
  · rintro pre x post ρ ee ⟨u, acc, a, b, hd, hl, hw, rfl⟩
    walk_at "zg"
    have hz : pre.length + (post.length + 1) = 40 := by
      have := congrArg List.length ee
      rw [rangeL_length] at this
      simp at this
      omega
    have hsl : (sizeLine : Nat) = 16777216 := sizeLine_eq
    cases u with
    | fin v =>
      simp only [Tr.enc]
      refine sq fun K hK2 => ?_
      walk_at "zs"
      refine hK2 _ _ (seqQ_bk.mpr ?_)
      rw [turnQ_bk]
      refine hK _ _ (seqQ_nx.mpr ?_)
      walk_at "zs"
      simp only [Tr.word, str_app_nil] at hw
      subst hw
      exact h0 _ _ (k _ _)
    | say s lot l r =>
      simp only [Tr.enc]
      refine sq fun K hK2 => ?_
      walk_at "zs"
      rw [say_end]
      walk_at "zs"
      refine hK2 _ _ (seqQ_nx.mpr ?_)
      clear hK2; clear K
      have z0 : ("0" : Str).length = 1 := by decide +kernel
      have z1 : ("1" : Str).length = 1 := by decide +kernel
      simp only [Tr.dep, List.length_cons] at hd
      unfold prD
      walk_at "zs"
      rw [at_pr]
      walk_at "zs"
      simp only [Tr.word] at hw
      by_cases c : (if s = true then j else i) ∈ lot
      · rw [if_pos c] at hw
        simp only [c, decide_true]
        walk_at "zs"
        rw [show (3 + 1 : Int) = 4 from rfl]
        walk_at "zs"
        exact ⟨r, acc ++ "1", some _, some _, by omega, by rw [str_len_app, z1, List.length_append]; simp; omega, by rw [str_app_assoc]; exact hw, rfl⟩
      · rw [if_neg c] at hw
        simp only [c, decide_false]
        walk_at "zs"
        rw [show (3 + 0 : Int) = 3 from rfl]
        walk_at "zs"
        exact ⟨l, acc ++ "0", some _, some _, by omega, by rw [str_len_app, z0, List.length_append]; simp; omega, by rw [str_app_assoc]; exact hw, rfl⟩
  · rintro ρ ⟨u, acc, a, b, hd, hl, hw, rfl⟩
    exact absurd hd (Nat.not_lt_zero _)
theorem words {t : Tr} {w : List D} {Q : RV → En → Prop} (ht : t.dep ≤ 30) (hw : Bag w) (k : ∀ w a, Bag w → Q (.d (.bl true)) [a, some (.own true w)]) : fwp G.m__law_words [.d t.enc, .own true w] Q := by
  unfold G.m__law_words G.b__law_words
  refine fw fun K0 h0 => ?_
  walk_at "z0"
  refine sq fun K hK => ?_
  walk_at "zs"
  refine wp_for (fun pre post ρ => ∃ (w : List D) (a b c : Option D), Bag w ∧ ρ = [some (.d t.enc), some (.own true w), a.map .d, b.map .d, c.map .d]) _ ⟨w, none, none, none, hw, rfl⟩ ?_ ?_
  · rintro pre x post ρ ee ⟨w, a, b, c, hw, rfl⟩
    walk_at "zg"
    refine sq fun K hK2 => ?_
    walk_at "zs"
    refine draw hw (by omega) (by omega) fun t' w _ t0 t1 hw => ?_
    walk_at "zs"
    obtain ⟨l, el, _⟩ := atI_ints (ns := [0, 0, 90]) t0 (by simpa using t1)
    rw [show [D.int 0, D.int 0, D.int 90] = [0, 0, 90].map D.int from rfl, el]
    walk_at "zs"
    refine hK2 _ _ (seqQ_nx.mpr ?_)
    clear hK2; clear K
    refine sq fun K hK2 => ?_
    walk_at "zs"
    refine draw hw (by omega) (by omega) fun i w _ t0 t1 hw => ?_
    walk_at "zs"
    refine draw hw (by omega) (by omega) fun j w _ t0 t1 hw => ?_
    walk_at "zs"
    refine hK2 _ _ (seqQ_nx.mpr ?_)
    clear hK2; clear K
    refine sq fun K hK2 => ?_
    have rest : ∀ i j w, Bag w → K .nx [some (.d t.enc), some (.own true w), some (.d x), some (.d (.int l)), some (.d (.tup [.int i, .int j]))] := fun i j w hw => by
      refine hK2 _ _ (seqQ_nx.mpr ?_)
      walk_at "zs"
      refine tree_bits (i := i) (j := j) ht fun _ _ => ?_
      walk_at "zs"
      refine lwalk (i := i) (j := j) ht fun _ _ => ?_
      walk_at "zs"
      refine same_str fun _ _ => ?_
      walk_at "zs"
      exact ⟨w, some _, some _, some _, hw, rfl⟩
    walk_at "zs"
    refine draw hw (by omega) (by omega) fun t' w _ t0 t1 hw => ?_
    walk_at "zs"
    exact ifQ_d (fun _ => rest _ _ _ hw) (fun _ => rest _ _ _ hw)
  · rintro ρ ⟨w, a, b, c, hw, rfl⟩
    refine hK _ _ (seqQ_nx.mpr ?_)
    walk_at "zs"
    exact h0 _ _ (k _ _ hw)
def scenes : List (Tr × Int) :=
  let en : Tr := .fin (.int 1)
  let one : Tr := .say false [1] en (.fin (.int 2))
  let two : Tr := .say true [0, 2] one en
  let three : Tr := .say false [] en two
  let runs : Tr := .say true [1] en (.say true [2] en (.say true [3] en (.say true [] en en)))
  [(en, 0), (one, 1), (two, 2), (three, 3), (runs, 1), (.say true [4] runs one, 2), (.say false [0] one one, 1), (.say false [0] runs three, 3), (.say true [] one three, 4)]
theorem scenes_ok : ∀ p ∈ scenes, p.1.dep ≤ 20 ∧ p.1.hrd none = p.2 := by
  intro p hp
  simp only [scenes, List.mem_cons, List.not_mem_nil, or_false] at hp
  rcases hp with rfl | rfl | rfl | rfl | rfl | rfl | rfl | rfl | rfl <;> exact ⟨by decide, by decide⟩
def scD (p : Tr × Int) : D := .tup [p.1.enc, .int p.2]
theorem close {w : List D} {Q : RV → En → Prop} (hw : Bag w) (k : ∀ w, Bag w → Q (.d (.bl true)) [some (.own true w)]) : fwp G.m__law_close [.own true w] Q := by
  unfold G.m__law_close G.b__law_close
  refine fw fun K0 h0 => ?_
  walk_at "z0"
  walk_at "nx"
  walk_at "nx"
  walk_at "nx"
  walk_at "nx"
  walk_at "nx"
  walk_at "nx"
  refine sq fun K hK => ?_
  walk_at "zs"
  refine ⟨scenes.map scD, (catL_ (by decide)).trans (congrArg some rfl), ?_⟩
  refine hK _ _ (seqQ_nx.mpr ?_)
  clear hK; clear K
  refine sq fun K hK => ?_
  walk_at "zs"
  refine draw hw (by decide) (by decide) fun i w _ i0 i1 hw => ?_
  walk_at "zs"
  obtain ⟨p, hp, ep, _⟩ := atI_map scD (xs := scenes) i0 (by simpa using i1)
  rw [ep]
  obtain ⟨p1, p2⟩ := scenes_ok p hp
  unfold scD
  walk_at "zs"
  refine hK _ _ (seqQ_nx.mpr ?_)
  walk_at "zs"
  refine sides (by omega) fun _ => ?_
  walk_at "zs"
  rw [p2]
  refine same_int fun _ _ => ?_
  walk_at "zs"
  exact h0 _ _ (k _ hw)
theorem main : ∀ ns : List Int, ns.length ≤ 63 → ∃ outs, G.m_law (lawArg ns) = .ok (.d (.bl true)) outs := by
  intro ns hn
  suffices h : fwp G.m_law (lawArg ns) fun rv _ => rv = .d (.bl true) by
    obtain ⟨x, outs, e, rfl⟩ := h
    exact ⟨outs, e⟩
  unfold G.m_law G.b_law lawArg
  refine fw fun K0 h0 => ?_
  walk_at "z0"
  refine sq fun K hK => ?_
  walk_at "zs"
  refine bag hn fun w _ hw => ?_
  walk_at "zs"
  refine hK _ _ (seqQ_nx.mpr ?_)
  clear hK; clear K
  refine sq fun K hK => ?_
  walk_at "zs"
  refine tree hw fun t w ht hw => ?_
  walk_at "zs"
  refine hK _ _ (seqQ_nx.mpr ?_)
  clear hK; clear K
  refine sq fun K hK => ?_
  walk_at "zs"
  refine asked (by omega) fun _ => ?_
  walk_at "zs"
  refine words (by omega) hw fun w _ hw => ?_
  walk_at "zs"
  refine hK _ _ (seqQ_nx.mpr ?_)
  clear hK; clear K
  refine sq fun K hK => ?_
  walk_at "zs"
  refine bent 40 (by omega) hw fun u w _ hu hw => ?_
  walk_at "zs"
  refine hK _ _ (seqQ_nx.mpr ?_)
  clear hK; clear K
  refine sq fun K hK => ?_
  walk_at "zs"
  refine asked (by omega) fun _ => ?_
  walk_at "zs"
  refine words (by omega) hw fun w _ hw => ?_
  walk_at "zs"
  refine hK _ _ (seqQ_nx.mpr ?_)
  clear hK; clear K
  walk_at "nx"
  refine sq fun K hK => ?_
  walk_at "zs"
  refine draw hw (by omega) (by omega) fun i w _ i0 i1 hw => ?_
  walk_at "zs"
  obtain ⟨lo, _, el, _⟩ := atI_map (fun l : List Int => D.tup (l.map D.int)) (xs := [[], [0], [0, 1, 2, 3, 4], [3, 99]]) i0 (by simpa using i1)
  refine ⟨_, el, ?_⟩
  refine hK _ _ (seqQ_nx.mpr ?_)
  clear hK; clear K
  refine sq fun K hK => ?_
  walk_at "zs"
  refine other 40 (o := false) (by omega) fun v _ _ _ hv => ?_
  walk_at "zs"
  refine asked (by omega) fun _ => ?_
  walk_at "zs"
  refine other 40 (o := true) (by omega) fun v _ _ _ hv => ?_
  walk_at "zs"
  refine asked (by omega) fun _ => ?_
  walk_at "zs"
  refine hK _ _ (seqQ_nx.mpr ?_)
  clear hK; clear K
  refine sq fun K hK => ?_
  have rest : ∀ a b, K .nx [some (.d (.kls (ns.map D.int))), some (.own false w), some (.d t.enc), some (.d u.enc), a, b, none] := fun a b => by
    refine hK _ _ (seqQ_nx.mpr ?_)
    clear hK; clear K
    refine sq fun K hK => ?_
    walk_at "zs"
    refine draw hw (by omega) (by omega) fun sy w _ i0 i1 hw => ?_
    walk_at "zs"
    refine grown 40 (m := 20) (o := none) hw (by omega) (by omega) (by omega) fun v w _ _ _ _ _ hv hw => ?_
    walk_at "zs"
    refine hK _ _ (seqQ_nx.mpr ?_)
    clear hK; clear K
    refine sq fun K hK => ?_
    walk_at "zs"
    refine asked (by omega) fun _ => ?_
    walk_at "zs"
    refine words (by omega) hw fun w _ hw => ?_
    walk_at "zs"
    refine hK _ _ (seqQ_nx.mpr ?_)
    clear hK; clear K
    walk_at "zs"
    refine close hw fun w hw => ?_
    walk_at "zs"
    refine asked (by omega) fun _ => ?_
    walk_at "zs"
    exact h0 _ _ rfl
  cases u with
  | fin v =>
    simp only [Tr.enc]
    walk_at "zs"
    rw [end_say]
    walk_at "zs"
    exact rest _ _
  | say s lo2 l r =>
    simp only [Tr.dep] at hu
    have rest := rest
    simp only [Tr.enc] at rest ⊢
    walk_at "zs"
    refine asked (by omega) fun _ => ?_
    walk_at "zs"
    refine asked (by omega) fun _ => ?_
    walk_at "zs"
    exact rest _ _
end MAIN

namespace GE
open PySem L2 Z
theorem all_mk {l : PySem.W.OpenLaw} {w : World} {K : PySem.W.Frag} {h : Heap} {mg : Str → Option Value} {fa f0 f1 f2 f3 f4 f5 f6 f7 f8 f9 f10 f11 f12 f13 f14 f15 f16 f17 f18 f19 f20 f21 : Addr} (main : ∀ ns : List Int, ns.length ≤ 63 → ∃ outs, G.m_law (lawArg ns) = .ok (.d (.bl true)) outs) (X : K.In h) (Gm : h.Ns mainGlobals mg) (hfa : mg "law" = some (.ref fa))
    {od0 an0 od1 an1 od2 an2 od3 an3 od4 an4 od5 an5 od6 an6 od7 an7 od8 an8 od9 an9 od10 an10 od11 an11 od12 an12 od13 an13 od14 an14 od15 an15 od16 an16 od17 an17 od18 an18 od19 an19 od20 an20 od21 an21 : Option Addr} {sl0 sl1 sl2 sl3 sl4 sl5 sl6 sl7 sl8 sl9 sl10 sl11 sl12 sl13 sl14 sl15 sl16 sl17 sl18 sl19 sl20 sl21 : Array (Option Value)} {oc0 kV0 dc0 pm0 cd0 ct0 oc1 kV1 dc1 pm1 cd1 ct1 oc2 kV2 dc2 pm2 cd2 ct2 oc3 kV3 dc3 pm3 cd3 ct3 oc4 kV4 dc4 pm4 cd4 ct4 oc5 kV5 dc5 pm5 cd5 ct5 oc6 kV6 dc6 pm6 cd6 ct6 oc7 kV7 dc7 pm7 cd7 ct7 oc8 kV8 dc8 pm8 cd8 ct8 oc9 kV9 dc9 pm9 cd9 ct9 oc10 kV10 dc10 pm10 cd10 ct10 oc11 kV11 dc11 pm11 cd11 ct11 oc12 kV12 dc12 pm12 cd12 ct12 oc13 kV13 dc13 pm13 cd13 ct13 oc14 kV14 dc14 pm14 cd14 ct14 oc15 kV15 dc15 pm15 cd15 ct15 oc16 kV16 dc16 pm16 cd16 ct16 oc17 kV17 dc17 pm17 cd17 ct17 oc18 kV18 dc18 pm18 cd18 ct18 oc19 kV19 dc19 pm19 cd19 ct19 oc20 kV20 dc20 pm20 cd20 ct20 oc21 kV21 dc21 pm21 cd21 ct21 : Value}
    (a0 : PySem.W.nsIn K mainGlobals "walk" = some (some (.ref f0))) (l0 : K.lookup f0 = some ⟨oc0, od0, .func (PySem.W.fnOf "walk" "walk" (defArgs G.s_walk) (defBody G.s_walk) (defScope G.s_walk) .none kV0 dc0 pm0 an0 cd0 ct0), sl0⟩) (c0 : PySem.W.codeIn K cd0 "walk" = true) (k0 : PySem.W.keepIn K (.ref f0) = true)
    (a1 : PySem.W.nsIn K mainGlobals "tree_bits" = some (some (.ref f1))) (l1 : K.lookup f1 = some ⟨oc1, od1, .func (PySem.W.fnOf "tree_bits" "tree_bits" (defArgs G.s_tree_bits) (defBody G.s_tree_bits) (defScope G.s_tree_bits) .none kV1 dc1 pm1 an1 cd1 ct1), sl1⟩) (c1 : PySem.W.codeIn K cd1 "tree_bits" = true) (k1 : PySem.W.keepIn K (.ref f1) = true)
    (a2 : PySem.W.nsIn K mainGlobals "stretches" = some (some (.ref f2))) (l2 : K.lookup f2 = some ⟨oc2, od2, .func (PySem.W.fnOf "stretches" "stretches" (defArgs G.s_stretches) (defBody G.s_stretches) (defScope G.s_stretches) .none kV2 dc2 pm2 an2 cd2 ct2), sl2⟩) (c2 : PySem.W.codeIn K cd2 "stretches" = true) (k2 : PySem.W.keepIn K (.ref f2) = true)
    (a3 : PySem.W.nsIn K mainGlobals "sides_heard" = some (some (.ref f3))) (l3 : K.lookup f3 = some ⟨oc3, od3, .func (PySem.W.fnOf "sides_heard" "sides_heard" (defArgs G.s_sides_heard) (defBody G.s_sides_heard) (defScope G.s_sides_heard) .none kV3 dc3 pm3 an3 cd3 ct3), sl3⟩) (c3 : PySem.W.codeIn K cd3 "sides_heard" = true) (k3 : PySem.W.keepIn K (.ref f3) = true)
    (a4 : PySem.W.nsIn K mainGlobals "_law_mixed" = some (some (.ref f4))) (l4 : K.lookup f4 = some ⟨oc4, od4, .func (PySem.W.fnOf "_law_mixed" "_law_mixed" (defArgs G.s__law_mixed) (defBody G.s__law_mixed) (defScope G.s__law_mixed) .none kV4 dc4 pm4 an4 cd4 ct4), sl4⟩) (c4 : PySem.W.codeIn K cd4 "_law_mixed" = true) (k4 : PySem.W.keepIn K (.ref f4) = true)
    (a5 : PySem.W.nsIn K mainGlobals "_law_bag" = some (some (.ref f5))) (l5 : K.lookup f5 = some ⟨oc5, od5, .func (PySem.W.fnOf "_law_bag" "_law_bag" (defArgs G.s__law_bag) (defBody G.s__law_bag) (defScope G.s__law_bag) .none kV5 dc5 pm5 an5 cd5 ct5), sl5⟩) (c5 : PySem.W.codeIn K cd5 "_law_bag" = true) (k5 : PySem.W.keepIn K (.ref f5) = true)
    (a6 : PySem.W.nsIn K mainGlobals "_law_draw" = some (some (.ref f6))) (l6 : K.lookup f6 = some ⟨oc6, od6, .func (PySem.W.fnOf "_law_draw" "_law_draw" (defArgs G.s__law_draw) (defBody G.s__law_draw) (defScope G.s__law_draw) .none kV6 dc6 pm6 an6 cd6 ct6), sl6⟩) (c6 : PySem.W.codeIn K cd6 "_law_draw" = true) (k6 : PySem.W.keepIn K (.ref f6) = true)
    (a7 : PySem.W.nsIn K mainGlobals "_law_whole" = some (some (.ref f7))) (l7 : K.lookup f7 = some ⟨oc7, od7, .func (PySem.W.fnOf "_law_whole" "_law_whole" (defArgs G.s__law_whole) (defBody G.s__law_whole) (defScope G.s__law_whole) .none kV7 dc7 pm7 an7 cd7 ct7), sl7⟩) (c7 : PySem.W.codeIn K cd7 "_law_whole" = true) (k7 : PySem.W.keepIn K (.ref f7) = true)
    (a8 : PySem.W.nsIn K mainGlobals "_law_same" = some (some (.ref f8))) (l8 : K.lookup f8 = some ⟨oc8, od8, .func (PySem.W.fnOf "_law_same" "_law_same" (defArgs G.s__law_same) (defBody G.s__law_same) (defScope G.s__law_same) .none kV8 dc8 pm8 an8 cd8 ct8), sl8⟩) (c8 : PySem.W.codeIn K cd8 "_law_same" = true) (k8 : PySem.W.keepIn K (.ref f8) = true)
    (a9 : PySem.W.nsIn K mainGlobals "_law_lot" = some (some (.ref f9))) (l9 : K.lookup f9 = some ⟨oc9, od9, .func (PySem.W.fnOf "_law_lot" "_law_lot" (defArgs G.s__law_lot) (defBody G.s__law_lot) (defScope G.s__law_lot) .none kV9 dc9 pm9 an9 cd9 ct9), sl9⟩) (c9 : PySem.W.codeIn K cd9 "_law_lot" = true) (k9 : PySem.W.keepIn K (.ref f9) = true)
    (a10 : PySem.W.nsIn K mainGlobals "_law_end" = some (some (.ref f10))) (l10 : K.lookup f10 = some ⟨oc10, od10, .func (PySem.W.fnOf "_law_end" "_law_end" (defArgs G.s__law_end) (defBody G.s__law_end) (defScope G.s__law_end) .none kV10 dc10 pm10 an10 cd10 ct10), sl10⟩) (c10 : PySem.W.codeIn K cd10 "_law_end" = true) (k10 : PySem.W.keepIn K (.ref f10) = true)
    (a11 : PySem.W.nsIn K mainGlobals "_law_side" = some (some (.ref f11))) (l11 : K.lookup f11 = some ⟨oc11, od11, .func (PySem.W.fnOf "_law_side" "_law_side" (defArgs G.s__law_side) (defBody G.s__law_side) (defScope G.s__law_side) .none kV11 dc11 pm11 an11 cd11 ct11), sl11⟩) (c11 : PySem.W.codeIn K cd11 "_law_side" = true) (k11 : PySem.W.keepIn K (.ref f11) = true)
    (a12 : PySem.W.nsIn K mainGlobals "_law_grown" = some (some (.ref f12))) (l12 : K.lookup f12 = some ⟨oc12, od12, .func (PySem.W.fnOf "_law_grown" "_law_grown" (defArgs G.s__law_grown) (defBody G.s__law_grown) (defScope G.s__law_grown) .none kV12 dc12 pm12 an12 cd12 ct12), sl12⟩) (c12 : PySem.W.codeIn K cd12 "_law_grown" = true) (k12 : PySem.W.keepIn K (.ref f12) = true)
    (a13 : PySem.W.nsIn K mainGlobals "_law_tree" = some (some (.ref f13))) (l13 : K.lookup f13 = some ⟨oc13, od13, .func (PySem.W.fnOf "_law_tree" "_law_tree" (defArgs G.s__law_tree) (defBody G.s__law_tree) (defScope G.s__law_tree) .none kV13 dc13 pm13 an13 cd13 ct13), sl13⟩) (c13 : PySem.W.codeIn K cd13 "_law_tree" = true) (k13 : PySem.W.keepIn K (.ref f13) = true)
    (a14 : PySem.W.nsIn K mainGlobals "_law_heard" = some (some (.ref f14))) (l14 : K.lookup f14 = some ⟨oc14, od14, .func (PySem.W.fnOf "_law_heard" "_law_heard" (defArgs G.s__law_heard) (defBody G.s__law_heard) (defScope G.s__law_heard) .none kV14 dc14 pm14 an14 cd14 ct14), sl14⟩) (c14 : PySem.W.codeIn K cd14 "_law_heard" = true) (k14 : PySem.W.keepIn K (.ref f14) = true)
    (a15 : PySem.W.nsIn K mainGlobals "_law_bent" = some (some (.ref f15))) (l15 : K.lookup f15 = some ⟨oc15, od15, .func (PySem.W.fnOf "_law_bent" "_law_bent" (defArgs G.s__law_bent) (defBody G.s__law_bent) (defScope G.s__law_bent) .none kV15 dc15 pm15 an15 cd15 ct15), sl15⟩) (c15 : PySem.W.codeIn K cd15 "_law_bent" = true) (k15 : PySem.W.keepIn K (.ref f15) = true)
    (a16 : PySem.W.nsIn K mainGlobals "_law_other" = some (some (.ref f16))) (l16 : K.lookup f16 = some ⟨oc16, od16, .func (PySem.W.fnOf "_law_other" "_law_other" (defArgs G.s__law_other) (defBody G.s__law_other) (defScope G.s__law_other) .none kV16 dc16 pm16 an16 cd16 ct16), sl16⟩) (c16 : PySem.W.codeIn K cd16 "_law_other" = true) (k16 : PySem.W.keepIn K (.ref f16) = true)
    (a17 : PySem.W.nsIn K mainGlobals "_law_asked" = some (some (.ref f17))) (l17 : K.lookup f17 = some ⟨oc17, od17, .func (PySem.W.fnOf "_law_asked" "_law_asked" (defArgs G.s__law_asked) (defBody G.s__law_asked) (defScope G.s__law_asked) .none kV17 dc17 pm17 an17 cd17 ct17), sl17⟩) (c17 : PySem.W.codeIn K cd17 "_law_asked" = true) (k17 : PySem.W.keepIn K (.ref f17) = true)
    (a18 : PySem.W.nsIn K mainGlobals "_law_walk" = some (some (.ref f18))) (l18 : K.lookup f18 = some ⟨oc18, od18, .func (PySem.W.fnOf "_law_walk" "_law_walk" (defArgs G.s__law_walk) (defBody G.s__law_walk) (defScope G.s__law_walk) .none kV18 dc18 pm18 an18 cd18 ct18), sl18⟩) (c18 : PySem.W.codeIn K cd18 "_law_walk" = true) (k18 : PySem.W.keepIn K (.ref f18) = true)
    (a19 : PySem.W.nsIn K mainGlobals "_law_words" = some (some (.ref f19))) (l19 : K.lookup f19 = some ⟨oc19, od19, .func (PySem.W.fnOf "_law_words" "_law_words" (defArgs G.s__law_words) (defBody G.s__law_words) (defScope G.s__law_words) .none kV19 dc19 pm19 an19 cd19 ct19), sl19⟩) (c19 : PySem.W.codeIn K cd19 "_law_words" = true) (k19 : PySem.W.keepIn K (.ref f19) = true)
    (a20 : PySem.W.nsIn K mainGlobals "_law_close" = some (some (.ref f20))) (l20 : K.lookup f20 = some ⟨oc20, od20, .func (PySem.W.fnOf "_law_close" "_law_close" (defArgs G.s__law_close) (defBody G.s__law_close) (defScope G.s__law_close) .none kV20 dc20 pm20 an20 cd20 ct20), sl20⟩) (c20 : PySem.W.codeIn K cd20 "_law_close" = true) (k20 : PySem.W.keepIn K (.ref f20) = true)
    (a21 : PySem.W.nsIn K mainGlobals "law" = some (some (.ref f21))) (l21 : K.lookup f21 = some ⟨oc21, od21, .func (PySem.W.fnOf "law" "law" (defArgs G.s_law) (defBody G.s_law) (defScope G.s_law) .none kV21 dc21 pm21 an21 cd21 ct21), sl21⟩) (c21 : PySem.W.codeIn K cd21 "law" = true) (k21 : PySem.W.keepIn K (.ref f21) = true)
    (z_abs : PySem.W.nsIn K mainGlobals "abs" = some none)
    (z_bool : PySem.W.nsIn K mainGlobals "bool" = some none)
    (z_int : PySem.W.nsIn K mainGlobals "int" = some none)
    (z_isinstance : PySem.W.nsIn K mainGlobals "isinstance" = some none)
    (z_len : PySem.W.nsIn K mainGlobals "len" = some none)
    (z_max : PySem.W.nsIn K mainGlobals "max" = some none)
    (z_range : PySem.W.nsIn K mainGlobals "range" = some none)
    (z_str : PySem.W.nsIn K mainGlobals "str" = some none)
    (z_tuple : PySem.W.nsIn K mainGlobals "tuple" = some none)
    : ∃ fd : FuncData, (∀ (s : Shared) (v : Value), BindsTo s fd ⟨[v], []⟩ [("script", v)]) ∧ ∀ base : Heap, K.In base → base.Ns mainGlobals mg → FnOk l.prog w K mg base (L2.CX l.prog w) 45 fa fd ["script"] (spLaw K) := by
  have e := hfa.symm.trans (PySem.W.mg_of X Gm a21)
  cases e
  have F0 := fun_mk (st := G.s_walk) l0 c0 k0
  have b0 := F0.binds (ps := ["tree", "inputs"]) fun _ _ _ _ _ _ us hl => match us, hl with | [_, _], _ => rfl
  have F1 := fun_mk (st := G.s_tree_bits) l1 c1 k1
  have b1 := F1.binds (ps := ["tree", "inputs"]) fun _ _ _ _ _ _ us hl => match us, hl with | [_, _], _ => rfl
  have F2 := fun_mk (st := G.s_stretches) l2 c2 k2
  have b2 := F2.binds (ps := ["tree", "last", "many"]) fun _ _ _ _ _ _ us hl => match us, hl with | [_, _, _], _ => rfl
  have F3 := fun_mk (st := G.s_sides_heard) l3 c3 k3
  have b3 := F3.binds (ps := ["tree"]) fun _ _ _ _ _ _ us hl => match us, hl with | [_], _ => rfl
  have F4 := fun_mk (st := G.s__law_mixed) l4 c4 k4
  have b4 := F4.binds (ps := ["seed", "add"]) fun _ _ _ _ _ _ us hl => match us, hl with | [_, _], _ => rfl
  have F5 := fun_mk (st := G.s__law_bag) l5 c5 k5
  have b5 := F5.binds (ps := ["script"]) fun _ _ _ _ _ _ us hl => match us, hl with | [_], _ => rfl
  have F6 := fun_mk (st := G.s__law_draw) l6 c6 k6
  have b6 := F6.binds (ps := ["bag", "many"]) fun _ _ _ _ _ _ us hl => match us, hl with | [_, _], _ => rfl
  have F7 := fun_mk (st := G.s__law_whole) l7 c7 k7
  have b7 := F7.binds (ps := ["x"]) fun _ _ _ _ _ _ us hl => match us, hl with | [_], _ => rfl
  have F8 := fun_mk (st := G.s__law_same) l8 c8 k8
  have b8 := F8.binds (ps := ["actual", "due"]) fun _ _ _ _ _ _ us hl => match us, hl with | [_, _], _ => rfl
  have F9 := fun_mk (st := G.s__law_lot) l9 c9 k9
  have b9 := F9.binds (ps := ["bag"]) fun _ _ _ _ _ _ us hl => match us, hl with | [_], _ => rfl
  have F10 := fun_mk (st := G.s__law_end) l10 c10 k10
  have b10 := F10.binds (ps := ["bag"]) fun _ _ _ _ _ _ us hl => match us, hl with | [_], _ => rfl
  have F11 := fun_mk (st := G.s__law_side) l11 c11 k11
  have b11 := F11.binds (ps := ["bag", "last", "kind"]) fun _ _ _ _ _ _ us hl => match us, hl with | [_, _, _], _ => rfl
  have F12 := fun_mk (st := G.s__law_grown) l12 c12 k12
  have b12 := F12.binds (ps := ["bag", "says", "deep", "last", "kind", "shape"]) fun _ _ _ _ _ _ us hl => match us, hl with | [_, _, _, _, _, _], _ => rfl
  have F13 := fun_mk (st := G.s__law_tree) l13 c13 k13
  have b13 := F13.binds (ps := ["bag"]) fun _ _ _ _ _ _ us hl => match us, hl with | [_], _ => rfl
  have F14 := fun_mk (st := G.s__law_heard) l14 c14 k14
  have b14 := F14.binds (ps := ["tree", "last"]) fun _ _ _ _ _ _ us hl => match us, hl with | [_, _], _ => rfl
  have F15 := fun_mk (st := G.s__law_bent) l15 c15 k15
  have b15 := F15.binds (ps := ["tree", "bag"]) fun _ _ _ _ _ _ us hl => match us, hl with | [_, _], _ => rfl
  have F16 := fun_mk (st := G.s__law_other) l16 c16 k16
  have b16 := F16.binds (ps := ["tree", "turn", "lot"]) fun _ _ _ _ _ _ us hl => match us, hl with | [_, _, _], _ => rfl
  have F17 := fun_mk (st := G.s__law_asked) l17 c17 k17
  have b17 := F17.binds (ps := ["tree"]) fun _ _ _ _ _ _ us hl => match us, hl with | [_], _ => rfl
  have F18 := fun_mk (st := G.s__law_walk) l18 c18 k18
  have b18 := F18.binds (ps := ["tree", "pair"]) fun _ _ _ _ _ _ us hl => match us, hl with | [_, _], _ => rfl
  have F19 := fun_mk (st := G.s__law_words) l19 c19 k19
  have b19 := F19.binds (ps := ["tree", "bag"]) fun _ _ _ _ _ _ us hl => match us, hl with | [_, _], _ => rfl
  have F20 := fun_mk (st := G.s__law_close) l20 c20 k20
  have b20 := F20.binds (ps := ["bag"]) fun _ _ _ _ _ _ us hl => match us, hl with | [_], _ => rfl
  have F21 := fun_mk (st := G.s_law) l21 c21 k21
  have b21 := F21.binds (ps := ["script"]) fun _ _ _ _ _ _ us hl => match us, hl with | [_], _ => rfl
  let T : G.Txt K mg := {a_walk := f0, fd_walk := _, F_walk := F0, b_walk := b0, g_walk := PySem.W.mg_of X Gm a0, a_tree_bits := f1, fd_tree_bits := _, F_tree_bits := F1, b_tree_bits := b1, g_tree_bits := PySem.W.mg_of X Gm a1, a_stretches := f2, fd_stretches := _, F_stretches := F2, b_stretches := b2, g_stretches := PySem.W.mg_of X Gm a2, a_sides_heard := f3, fd_sides_heard := _, F_sides_heard := F3, b_sides_heard := b3, g_sides_heard := PySem.W.mg_of X Gm a3, a__law_mixed := f4, fd__law_mixed := _, F__law_mixed := F4, b__law_mixed := b4, g__law_mixed := PySem.W.mg_of X Gm a4, a__law_bag := f5, fd__law_bag := _, F__law_bag := F5, b__law_bag := b5, g__law_bag := PySem.W.mg_of X Gm a5, a__law_draw := f6, fd__law_draw := _, F__law_draw := F6, b__law_draw := b6, g__law_draw := PySem.W.mg_of X Gm a6, a__law_whole := f7, fd__law_whole := _, F__law_whole := F7, b__law_whole := b7, g__law_whole := PySem.W.mg_of X Gm a7, a__law_same := f8, fd__law_same := _, F__law_same := F8, b__law_same := b8, g__law_same := PySem.W.mg_of X Gm a8, a__law_lot := f9, fd__law_lot := _, F__law_lot := F9, b__law_lot := b9, g__law_lot := PySem.W.mg_of X Gm a9, a__law_end := f10, fd__law_end := _, F__law_end := F10, b__law_end := b10, g__law_end := PySem.W.mg_of X Gm a10, a__law_side := f11, fd__law_side := _, F__law_side := F11, b__law_side := b11, g__law_side := PySem.W.mg_of X Gm a11, a__law_grown := f12, fd__law_grown := _, F__law_grown := F12, b__law_grown := b12, g__law_grown := PySem.W.mg_of X Gm a12, a__law_tree := f13, fd__law_tree := _, F__law_tree := F13, b__law_tree := b13, g__law_tree := PySem.W.mg_of X Gm a13, a__law_heard := f14, fd__law_heard := _, F__law_heard := F14, b__law_heard := b14, g__law_heard := PySem.W.mg_of X Gm a14, a__law_bent := f15, fd__law_bent := _, F__law_bent := F15, b__law_bent := b15, g__law_bent := PySem.W.mg_of X Gm a15, a__law_other := f16, fd__law_other := _, F__law_other := F16, b__law_other := b16, g__law_other := PySem.W.mg_of X Gm a16, a__law_asked := f17, fd__law_asked := _, F__law_asked := F17, b__law_asked := b17, g__law_asked := PySem.W.mg_of X Gm a17, a__law_walk := f18, fd__law_walk := _, F__law_walk := F18, b__law_walk := b18, g__law_walk := PySem.W.mg_of X Gm a18, a__law_words := f19, fd__law_words := _, F__law_words := F19, b__law_words := b19, g__law_words := PySem.W.mg_of X Gm a19, a__law_close := f20, fd__law_close := _, F__law_close := F20, b__law_close := b20, g__law_close := PySem.W.mg_of X Gm a20, a_law := fa, fd_law := _, F_law := F21, b_law := b21, g_law := PySem.W.mg_of X Gm a21, n_abs := PySem.W.mg_none_of X Gm z_abs, n_bool := PySem.W.mg_none_of X Gm z_bool, n_int := PySem.W.mg_none_of X Gm z_int, n_isinstance := PySem.W.mg_none_of X Gm z_isinstance, n_len := PySem.W.mg_none_of X Gm z_len, n_max := PySem.W.mg_none_of X Gm z_max, n_range := PySem.W.mg_none_of X Gm z_range, n_str := PySem.W.mg_none_of X Gm z_str, n_tuple := PySem.W.mg_none_of X Gm z_tuple}
  refine ⟨T.fd_law, fun s v => .of_eq rfl, fun base _ _ => (G.ok_law (P := l.prog) (w := w) (base := base) T).imp (law_imp main)⟩
end GE
open PySem PySem.W PyProof.Rows in
set_option maxRecDepth 100000 in
set_option maxHeartbeats 0 in
theorem PySem.Challenge.cw_everyhands_k72_whole_turns_on_all_ways_holds : PySem.Challenge.rw_everyhands_k72_whole_turns_on_all_ways.Holds := by
  w_on; o_law; k_head; (case hw => w_witness2)
  k_fill
  refine Z.walk 45 ⟨rfl, by decide, by decide⟩ (l := PySem.Challenge.rw_everyhands_k72_whole_turns_on_all_ways) rfl rfl (fun w h Y => PySem.W.kIn_of Y) ?F
  case F =>
    intro w mg fa h KX G hmg
    refine' GE.all_mk MAIN.main KX G hmg ?a0 ?l0 ?c0 ?k0 ?a1 ?l1 ?c1 ?k1 ?a2 ?l2 ?c2 ?k2 ?a3 ?l3 ?c3 ?k3 ?a4 ?l4 ?c4 ?k4 ?a5 ?l5 ?c5 ?k5 ?a6 ?l6 ?c6 ?k6 ?a7 ?l7 ?c7 ?k7 ?a8 ?l8 ?c8 ?k8 ?a9 ?l9 ?c9 ?k9 ?a10 ?l10 ?c10 ?k10 ?a11 ?l11 ?c11 ?k11 ?a12 ?l12 ?c12 ?k12 ?a13 ?l13 ?c13 ?k13 ?a14 ?l14 ?c14 ?k14 ?a15 ?l15 ?c15 ?k15 ?a16 ?l16 ?c16 ?k16 ?a17 ?l17 ?c17 ?k17 ?a18 ?l18 ?c18 ?k18 ?a19 ?l19 ?c19 ?k19 ?a20 ?l20 ?c20 ?k20 ?a21 ?l21 ?c21 ?k21 ?z_abs ?z_bool ?z_int ?z_isinstance ?z_len ?z_max ?z_range ?z_str ?z_tuple
    (case a0 => k_is)
    (case l0 => k_is)
    (case c0 => k_is)
    (case k0 => k_is)
    (case a1 => k_is)
    (case l1 => k_is)
    (case c1 => k_is)
    (case k1 => k_is)
    (case a2 => k_is)
    (case l2 => k_is)
    (case c2 => k_is)
    (case k2 => k_is)
    (case a3 => k_is)
    (case l3 => k_is)
    (case c3 => k_is)
    (case k3 => k_is)
    (case a4 => k_is)
    (case l4 => k_is)
    (case c4 => k_is)
    (case k4 => k_is)
    (case a5 => k_is)
    (case l5 => k_is)
    (case c5 => k_is)
    (case k5 => k_is)
    (case a6 => k_is)
    (case l6 => k_is)
    (case c6 => k_is)
    (case k6 => k_is)
    (case a7 => k_is)
    (case l7 => k_is)
    (case c7 => k_is)
    (case k7 => k_is)
    (case a8 => k_is)
    (case l8 => k_is)
    (case c8 => k_is)
    (case k8 => k_is)
    (case a9 => k_is)
    (case l9 => k_is)
    (case c9 => k_is)
    (case k9 => k_is)
    (case a10 => k_is)
    (case l10 => k_is)
    (case c10 => k_is)
    (case k10 => k_is)
    (case a11 => k_is)
    (case l11 => k_is)
    (case c11 => k_is)
    (case k11 => k_is)
    (case a12 => k_is)
    (case l12 => k_is)
    (case c12 => k_is)
    (case k12 => k_is)
    (case a13 => k_is)
    (case l13 => k_is)
    (case c13 => k_is)
    (case k13 => k_is)
    (case a14 => k_is)
    (case l14 => k_is)
    (case c14 => k_is)
    (case k14 => k_is)
    (case a15 => k_is)
    (case l15 => k_is)
    (case c15 => k_is)
    (case k15 => k_is)
    (case a16 => k_is)
    (case l16 => k_is)
    (case c16 => k_is)
    (case k16 => k_is)
    (case a17 => k_is)
    (case l17 => k_is)
    (case c17 => k_is)
    (case k17 => k_is)
    (case a18 => k_is)
    (case l18 => k_is)
    (case c18 => k_is)
    (case k18 => k_is)
    (case a19 => k_is)
    (case l19 => k_is)
    (case c19 => k_is)
    (case k19 => k_is)
    (case a20 => k_is)
    (case l20 => k_is)
    (case c20 => k_is)
    (case k20 => k_is)
    (case a21 => k_is)
    (case l21 => k_is)
    (case c21 => k_is)
    (case k21 => k_is)
    (case z_abs => k_is)
    (case z_bool => k_is)
    (case z_int => k_is)
    (case z_isinstance => k_is)
    (case z_len => k_is)
    (case z_max => k_is)
    (case z_range => k_is)
    (case z_str => k_is)
    (case z_tuple => k_is)
