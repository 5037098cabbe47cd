import PyProof.Rows.All
import Wide.All
import OpenK.AllK
import Wide.FinOn
import HandS.ForExc
import HandS.Comp
import HandS.ForMost
import HandS.TupAny
import HandS.TupLe
import HandS.TupMul
import HandS.Deep
import HandS.IsInst
import HandS.SortInts
import HandS.Conv
import HandS.Rev
import HandS.ExcCtx
import HandS.Text
import HandS.Exc
import HandS.ExcOwn
import HandS.ExcIs
import HandS.TryOnly
import HandS.HotCalls
import PyProof.ExcBaseAll.ValueError
import HandS.SetFor
import HandS.Strs
import HandS.RevTup
import HandS.Style
import HandS.WideBits
import KE.GoesEnum
import HandS.Zip
import HandS.Zip0
import HandS.ExcInit
import HandS.ExcField
import KE.KExcSuper
import HandS.TryMany
import KE.KTupSum
import PyProof.StrOps2
import PySem.Challenge.RW_everyhands_k95_whole_said_at_tables
set_option Elab.async false
set_option linter.all false
set_option maxRecDepth 100000
set_option maxHeartbeats 4000000
/-! Z: a run of a def as a plain function over values (data D, owned lists by slot), and what ties it to the layer's readings -/
namespace Z
open PySem L2

/-! ### data -/
/-- kls: a list that is read alone (the script, a list of the module) -/
inductive D where
  | non | bl (b : Bool) | int (i : Int) | str (x : Str) | tup (ds : List D) | lst (ds : List D) | kls (ds : List D) | dik (ks : List L2.Key) (ds : List D) | dit (ks : List (List L2.Key)) (ds : List D)

instance : Inhabited D := ⟨.non⟩

/-- what a slot holds: data, or a list of its own (io: handed in, handed back) -/
inductive El where
  | d (x : D) | p (c : Addr) (ds : List D)
inductive SV where
  | d (x : D) | own (io : Bool) (ds : List D) | ex (a : Addr) | dct (x : D) | tre (io : Bool) (es : List El)
abbrev En := List (Option SV)

structure Exn where
  cls : Str
  fld : Option (Str × Int)

inductive Rs (α : Type) where
  | ok (a : α) (ρ : En) | exc (e : Exn) (ρ : En) | bad
abbrev M (α : Type) := En → Rs α
def mpure {α : Type} (a : α) : M α := fun ρ => .ok a ρ
def mbad {α : Type} : M α := fun _ => .bad
def mbind {α β : Type} (f : M α) (g : α → M β) : M β := fun ρ => match f ρ with
  | .ok a ρ' => g a ρ'
  | .exc e ρ' => .exc e ρ'
  | .bad => .bad
def mopt {α : Type} : Option α → M α
  | some a => mpure a
  | none => mbad

/-! ### data in the abstract heap -/
mutual
inductive Rep (K : PySem.W.Frag) (F : Addr → Prop) (H : Hp) : D → V → Prop
  | non : Rep K F H .non .non
  | bl (b : Bool) : Rep K F H (.bl b) (.bl b)
  | int (i : Int) : Rep K F H (.int i) (.int i)
  | str (x : Str) : Rep K F H (.str x) (.str x)
  | tup {a : Addr} {vs : List V} {ds : List D} : SqT K H a vs → (¬ F a ∨ ∀ H', SqT K H' a vs) → Reps K F H ds vs → Rep K F H (.tup ds) (.ref a)
  | lst {a : Addr} {vs : List V} {ds : List D} : H a = some (.lst vs) → ¬ F a → Reps K F H ds vs → Rep K F H (.lst ds) (.ref a)
  | kls {a : Addr} {vs : List V} {ds : List D} : SqL K H a vs → (¬ F a ∨ ∀ H', SqL K H' a vs) → Reps K F H ds vs → Rep K F H (.kls ds) (.ref a)
  | dik {a : Addr} {kvs : List (L2.Key × V)} {ds : List D} : H a = some (.dK kvs) → ¬ F a → Reps K F H ds (kvs.map (·.2)) → Rep K F H (.dik (kvs.map (·.1)) ds) (.ref a)
  | dit {a : Addr} {kvs : List (List L2.Key × V)} {ds : List D} : H a = some (.dT kvs) → ¬ F a → Reps K F H ds (kvs.map (·.2)) → Rep K F H (.dit (kvs.map (·.1)) ds) (.ref a)
inductive Reps (K : PySem.W.Frag) (F : Addr → Prop) (H : Hp) : List D → List V → Prop
  | nil : Reps K F H [] []
  | cons {d : D} {v : V} {ds : List D} {vs : List V} : Rep K F H d v → Reps K F H ds vs → Reps K F H (d :: ds) (v :: vs)
end

theorem ZqT.has {K : PySem.W.Frag} {H : Hp} {a : Addr} {xs : List V} (h : SqT K H a xs) : (∃ o, H a = some o) ∨ ∀ H', SqT K H' a xs := by
  rcases h with (h | ⟨o, h⟩) | h
  · exact .inl ⟨_, h⟩
  · exact .inl ⟨_, h⟩
  · exact .inr fun _ => .inr h
theorem ZqL.has {K : PySem.W.Frag} {H : Hp} {a : Addr} {xs : List V} (h : SqL K H a xs) : (∃ o, H a = some o) ∨ ∀ H', SqL K H' a xs := by
  rcases h with (h | ⟨o, h⟩) | h
  · exact .inl ⟨_, h⟩
  · exact .inl ⟨_, h⟩
  · exact .inr fun _ => .inr h
theorem ZqT.go {K : PySem.W.Frag} {H H' : Hp} {a : Addr} {xs : List V} (h : SqT K H a xs) (k : ∀ o, H a = some o → H' a = some o) : SqT K H' a xs := by
  rcases h with (h | ⟨o, h⟩) | h
  · exact .inl (.inl (k _ h))
  · exact .inl (.inr ⟨o, k _ h⟩)
  · exact .inr h
theorem ZqL.go {K : PySem.W.Frag} {H H' : Hp} {a : Addr} {xs : List V} (h : SqL K H a xs) (k : ∀ o, H a = some o → H' a = some o) : SqL K H' a xs := by
  rcases h with (h | ⟨o, h⟩) | h
  · exact .inl (.inl (k _ h))
  · exact .inl (.inr ⟨o, k _ h⟩)
  · exact .inr h

section
variable {K : PySem.W.Frag} {F F' : Addr → Prop} {H H' : Hp}
mutual
/-- data stays data where what may change is not its own -/
theorem Rep.mono (hF : ∀ a, F' a → F a ∨ H a = none) (hk : ∀ a o, H a = some o → ¬ F a → H' a = some o) : ∀ {d : D} {v : V}, Rep K F H d v → Rep K F' H' d v
  | _, _, .non => .non
  | _, _, .bl b => .bl b
  | _, _, .int i => .int i
  | _, _, .str x => .str x
  | _, _, .tup (a := a) h n r => by
    have r' := Reps.mono hF hk r
    rcases n with n | n
    · rcases ZqT.has h with ⟨o, e⟩ | n'
      · exact .tup (ZqT.go h fun o e => hk a o e n) (.inl fun z => (hF a z).elim n fun q => by rw [e] at q; cases q) r'
      · exact .tup (n' _) (.inr n') r'
    · exact .tup (n _) (.inr n) r'
  | _, _, .lst (a := a) h n r => .lst (hk a _ h n) (fun z => (hF a z).elim n fun q => by rw [h] at q; cases q) (Reps.mono hF hk r)
  | _, _, .kls (a := a) h n r => by
    have r' := Reps.mono hF hk r
    rcases n with n | n
    · rcases ZqL.has h with ⟨o, e⟩ | n'
      · exact .kls (ZqL.go h fun o e => hk a o e n) (.inl fun z => (hF a z).elim n fun q => by rw [e] at q; cases q) r'
      · exact .kls (n' _) (.inr n') r'
    · exact .kls (n _) (.inr n) r'
  | _, _, .dik (a := a) h n r => .dik (hk a _ h n) (fun z => (hF a z).elim n fun q => by rw [h] at q; cases q) (Reps.mono hF hk r)
  | _, _, .dit (a := a) h n r => .dit (hk a _ h n) (fun z => (hF a z).elim n fun q => by rw [h] at q; cases q) (Reps.mono hF hk r)
theorem Reps.mono (hF : ∀ a, F' a → F a ∨ H a = none) (hk : ∀ a o, H a = some o → ¬ F a → H' a = some o) : ∀ {ds : List D} {vs : List V}, Reps K F H ds vs → Reps K F' H' ds vs
  | _, _, .nil => .nil
  | _, _, .cons h r => .cons (Rep.mono hF hk h) (Reps.mono hF hk r)
end
theorem Reps.length : ∀ {ds : List D} {vs : List V}, Reps K F H ds vs → ds.length = vs.length
  | _, _, .nil => rfl
  | _, _, .cons _ r => congrArg (· + 1) r.length
theorem Reps.append : ∀ {ds es : List D} {vs us : List V}, Reps K F H ds vs → Reps K F H es us → Reps K F H (ds ++ es) (vs ++ us)
  | _, _, _, _, .nil, q => q
  | _, _, _, _, .cons h r, q => .cons h (r.append q)
theorem Reps.get : ∀ {ds : List D} {vs : List V} {i : Nat} {x : D}, Reps K F H ds vs → ds[i]? = some x → ∃ v, vs[i]? = some v ∧ Rep K F H x v
  | _, _, _, _, .nil, e => by simp at e
  | _, _, 0, _, .cons h _, e => by simp at e; subst e; exact ⟨_, rfl, h⟩
  | _, _, i + 1, x, .cons _ r, e => by
    obtain ⟨v, h1, h2⟩ := Reps.get (i := i) (x := x) r (by simpa using e)
    exact ⟨v, by simpa using h1, h2⟩
theorem Reps.set {x : D} {v : V} (h : Rep K F H x v) : ∀ {ds : List D} {vs : List V} (i : Nat), Reps K F H ds vs → Reps K F H (ds.set i x) (vs.set i v)
  | _, _, _, .nil => .nil
  | _, _, 0, .cons _ r => .cons h r
  | _, _, i + 1, .cons q r => .cons q (Reps.set h i r)
theorem Reps.take : ∀ {ds : List D} {vs : List V} (n : Nat), Reps K F H ds vs → Reps K F H (ds.take n) (vs.take n)
  | _, _, 0, _ => .nil
  | _, _, _ + 1, .nil => .nil
  | _, _, n + 1, .cons h r => .cons h (r.take n)
theorem Reps.drop : ∀ {ds : List D} {vs : List V} (n : Nat), Reps K F H ds vs → Reps K F H (ds.drop n) (vs.drop n)
  | _, _, 0, r => r
  | _, _, _ + 1, .nil => .nil
  | _, _, n + 1, .cons _ r => r.drop n
theorem Reps.erase : ∀ {ds : List D} {vs : List V} (n : Nat), Reps K F H ds vs → Reps K F H (ds.eraseIdx n) (vs.eraseIdx n)
  | _, _, _, .nil => .nil
  | _, _, 0, .cons _ r => r
  | _, _, n + 1, .cons h r => .cons h (r.erase n)
theorem Reps.reverse : ∀ {ds : List D} {vs : List V}, Reps K F H ds vs → Reps K F H ds.reverse vs.reverse
  | _, _, .nil => .nil
  | _, _, .cons h r => by
    rw [List.reverse_cons, List.reverse_cons]
    exact r.reverse.append (.cons h .nil)
theorem Reps.all {K' : PySem.W.Frag} (k : ∀ {x : D} {v : V}, Rep K F H x v → Rep K' F' H' x v) : ∀ {ds : List D} {vs : List V}, Reps K F H ds vs → Reps K' F' H' ds vs
  | _, _, .nil => .nil
  | _, _, .cons h r => .cons (k h) (Reps.all k r)
theorem Reps.ints : ∀ (ns : List Int), Reps K F H (ns.map D.int) (ns.map V.int)
  | [] => .nil
  | n :: r => .cons (.int n) (Reps.ints r)
end

/-! ### slots against slots -/
def SV.owned : SV → Bool
  | .own _ _ => true
  | .dct _ => true
  | .tre _ _ => true
  | _ => false
/-- the lists within a list of lists -/
def innE : List El → List Addr
  | [] => []
  | .p c _ :: r => c :: innE r
  | .d _ :: r => innE r
def SV.inner : SV → List Addr
  | .tre _ es => innE es
  | _ => []
/-- the elements of a list that owns some of them -/
inductive Els (K : PySem.W.Frag) (F : Addr → Prop) (H : Hp) : List El → List V → Prop
  | nil : Els K F H [] []
  | d {x : D} {v : V} {es : List El} {vs : List V} : Rep K F H x v → Els K F H es vs → Els K F H (.d x :: es) (v :: vs)
  | p {c : Addr} {ds : List D} {ws : List V} {es : List El} {vs : List V} : H c = some (.lst ws) → Reps K F H ds ws → Els K F H es vs → Els K F H (.p c ds :: es) (.ref c :: vs)
/-- what the object of an owning slot holds -/
inductive Hold (K : PySem.W.Frag) (F : Addr → Prop) (H : Hp) : SV → Addr → Prop
  | own {b : Bool} {ds : List D} {vs : List V} {a : Addr} : H a = some (.lst vs) → Reps K F H ds vs → Hold K F H (.own b ds) a
  | dik {kvs : List (L2.Key × V)} {ds : List D} {a : Addr} : H a = some (.dK kvs) → Reps K F H ds (kvs.map (·.2)) → Hold K F H (.dct (.dik (kvs.map (·.1)) ds)) a
  | dit {kvs : List (List L2.Key × V)} {ds : List D} {a : Addr} : H a = some (.dT kvs) → Reps K F H ds (kvs.map (·.2)) → Hold K F H (.dct (.dit (kvs.map (·.1)) ds)) a
  | tre {b : Bool} {es : List El} {vs : List V} {a : Addr} : H a = some (.lst vs) → Els K F H es vs → (a :: innE es).Nodup → Hold K F H (.tre b es) a
/-- of what a slot is the one that holds it -/
def SV.has (u : SV) (x : Option (Option V)) (a : Addr) : Prop := (u.owned = true ∧ x = some (some (.ref a))) ∨ a ∈ u.inner
theorem Els.alc {K : PySem.W.Frag} {F : Addr → Prop} {H : Hp} {c : Addr} : ∀ {es : List El} {vs : List V}, Els K F H es vs → c ∈ innE es → ∃ o, H c = some o
  | _, _, .nil, h => by cases h
  | _, _, .d _ r, h => Els.alc r h
  | _, _, .p e _ r, h => by
    rcases List.mem_cons.mp h with rfl | h
    · exact ⟨_, e⟩
    · exact Els.alc r h
theorem Els.mono {K : PySem.W.Frag} {F F' : Addr → Prop} {H H' : Hp} (hF : ∀ a, F' a → F a ∨ H a = none) (hk : ∀ a o, H a = some o → ¬ F a → H' a = some o) : ∀ {es : List El} {vs : List V}, Els K F H es vs → (∀ c ∈ innE es, H' c = H c) → Els K F' H' es vs
  | _, _, .nil, _ => .nil
  | _, _, .d h r, k => .d (h.mono hF hk) (r.mono hF hk k)
  | _, _, .p e h r, k => .p ((k _ List.mem_cons_self).trans e) (h.mono hF hk) (r.mono hF hk fun c hc => k c (List.mem_cons_of_mem _ hc))
theorem Hold.alc {K : PySem.W.Frag} {F : Addr → Prop} {H : Hp} {u : SV} {a c : Addr} (h : Hold K F H u a) (hc : u.has (some (some (.ref a))) c) : ∃ o, H c = some o := by
  have top : u.owned = true ∧ (some (some (.ref a)) : Option (Option V)) = some (some (.ref c)) → c = a := fun ⟨_, e⟩ => by cases e; rfl
  cases h with
  | own e r => rcases hc with hc | hc
               · rw [top hc]; exact ⟨_, e⟩
               · cases hc
  | dik e r => rcases hc with hc | hc
               · rw [top hc]; exact ⟨_, e⟩
               · cases hc
  | dit e r => rcases hc with hc | hc
               · rw [top hc]; exact ⟨_, e⟩
               · cases hc
  | tre e r n => rcases hc with hc | hc
                 · rw [top hc]; exact ⟨_, e⟩
                 · exact r.alc hc
/-- what is held stays where its own objects stay -/
theorem Hold.mono {K : PySem.W.Frag} {F F' : Addr → Prop} {H H' : Hp} (hF : ∀ a, F' a → F a ∨ H a = none) (hk : ∀ a o, H a = some o → ¬ F a → H' a = some o) {u : SV} {a : Addr} (h : Hold K F H u a) (k : ∀ c, u.has (some (some (.ref a))) c → H' c = H c) : Hold K F' H' u a := by
  cases h with
  | own e r => exact .own ((k a (.inl ⟨rfl, rfl⟩)).trans e) (r.mono hF hk)
  | dik e r => exact .dik ((k a (.inl ⟨rfl, rfl⟩)).trans e) (r.mono hF hk)
  | dit e r => exact .dit ((k a (.inl ⟨rfl, rfl⟩)).trans e) (r.mono hF hk)
  | tre e r n => exact .tre ((k a (.inl ⟨rfl, rfl⟩)).trans e) (r.mono hF hk fun c hc => k c (.inr hc)) n
theorem SV.inner_owned {u : SV} {c : Addr} (h : c ∈ u.inner) : u.owned = true := by
  cases u with
  | tre b es => rfl
  | d x => cases h
  | own b ds => cases h
  | ex a => cases h
  | dct x => cases h
theorem SV.has_owned {u : SV} {x : Option (Option V)} {c : Addr} (h : u.has x c) : u.owned = true := h.elim (fun h => h.1) SV.inner_owned
/-- the addresses of the lists and dicts that slots own -/
def Own (ρ : En) (σ : St) (a : Addr) : Prop := ∃ (i : Nat) (u : SV), ρ[i]? = some (some u) ∧ u.has σ[i]? a
def Fav (F0 : Addr → Prop) (ρ : En) (σ : St) : Addr → Prop := fun a => F0 a ∨ Own ρ σ a
structure Rl (K : PySem.W.Frag) (F0 : Addr → Prop) (ρ : En) (σ : St) (H : Hp) : Prop where
  len : ρ.length = σ.length
  dat : ∀ (i : Nat) (x : D), ρ[i]? = some (some (.d x)) → ∃ v : V, σ[i]? = some (some v) ∧ Rep K (Fav F0 ρ σ) H x v
  own : ∀ (i : Nat) (u : SV), u.owned = true → ρ[i]? = some (some u) → ∃ (a : Addr), σ[i]? = some (some (.ref a)) ∧ Hold K (Fav F0 ρ σ) H u a ∧ ∀ c, u.has σ[i]? c → ¬ F0 c
  inj : ∀ (i j : Nat) (u w : SV) (a : Addr), ρ[i]? = some (some u) → ρ[j]? = some (some w) → u.has σ[i]? a → w.has σ[j]? a → i = j
  alc : ∀ a, F0 a → ∃ o, H a = some o
  obj : ∀ (i : Nat) (a : Addr), ρ[i]? = some (some (.ex a)) → σ[i]? = some (some (.ref a))
theorem Rl.lst {K : PySem.W.Frag} {F0 : Addr → Prop} {ρ : En} {σ : St} {H : Hp} (R : Rl K F0 ρ σ H) (i : Nat) (b : Bool) (ds : List D) (e : ρ[i]? = some (some (.own b ds))) : ∃ (a : Addr) (vs : List V), σ[i]? = some (some (.ref a)) ∧ H a = some (.lst vs) ∧ Reps K (Fav F0 ρ σ) H ds vs ∧ ¬ F0 a := by
  obtain ⟨a, h1, h3, h4⟩ := R.own i _ rfl e
  cases h3 with
  | own h2 r => exact ⟨a, _, h1, h2, r, h4 a (.inl ⟨rfl, h1⟩)⟩
structure Stp (ρ : En) (σ : St) (H : Hp) (ρ' : En) (σ' : St) (H' : Hp) : Prop where
  keep : ∀ a o, H a = some o → ¬ Own ρ σ a → H' a = some o
  own : ∀ a, Own ρ' σ' a → Own ρ σ a ∨ H a = none
  trk : ∀ a, H' a = none → H a = none
  io : ∀ (i : Nat) (ds : List D), ρ[i]? = some (some (.own true ds)) → σ'[i]? = σ[i]? ∧ ∃ ds' : List D, ρ'[i]? = some (some (.own true ds'))
  ioT : ∀ (i : Nat) (es : List El), ρ[i]? = some (some (.tre true es)) → σ'[i]? = σ[i]? ∧ ∃ es' : List El, ρ'[i]? = some (some (.tre true es')) ∧ innE es' = innE es
  len : ρ'.length = ρ.length

theorem Stp.refl (ρ : En) (σ : St) (H : Hp) : Stp ρ σ H ρ σ H := ⟨fun _ _ e _ => e, fun _ h => .inl h, fun _ e => e, fun _ ds e => ⟨rfl, ds, e⟩, fun _ ds e => ⟨rfl, ds, e, rfl⟩, rfl⟩
theorem Stp.trans {ρ ρ1 ρ2 : En} {σ σ1 σ2 : St} {H H1 H2 : Hp} (a : Stp ρ σ H ρ1 σ1 H1) (b : Stp ρ1 σ1 H1 ρ2 σ2 H2) : Stp ρ σ H ρ2 σ2 H2 where
  keep := fun c o e n => b.keep c o (a.keep c o e n) fun z => (a.own c z).elim n fun q => by rw [e] at q; cases q
  own := fun c z => (b.own c z).elim (fun q => a.own c q) fun q => .inr (a.trk c q)
  trk := fun c e => a.trk c (b.trk c e)
  io := fun i ds e => by
    obtain ⟨e1, ds1, f1⟩ := a.io i ds e
    obtain ⟨e2, ds2, f2⟩ := b.io i ds1 f1
    exact ⟨e2.trans e1, ds2, f2⟩
  ioT := fun i ds e => by
    obtain ⟨e1, ds1, f1, g1⟩ := a.ioT i ds e
    obtain ⟨e2, ds2, f2, g2⟩ := b.ioT i ds1 f1
    exact ⟨e2.trans e1, ds2, f2, g2.trans g1⟩
  len := b.len.trans a.len
/-- what was data is data -/
theorem Stp.rep {K : PySem.W.Frag} {F0 : Addr → Prop} {ρ ρ' : En} {σ σ' : St} {H H' : Hp} (a : Stp ρ σ H ρ' σ' H') {x : D} {v : V} (h : Rep K (Fav F0 ρ σ) H x v) : Rep K (Fav F0 ρ' σ') H' x v :=
  h.mono (fun c z => z.elim (fun z => .inl (.inl z)) fun z => (a.own c z).elim (fun q => .inl (.inr q)) .inr) fun c o e n => a.keep c o e fun z => n (.inr z)
theorem Stp.reps {K : PySem.W.Frag} {F0 : Addr → Prop} {ρ ρ' : En} {σ σ' : St} {H H' : Hp} (a : Stp ρ σ H ρ' σ' H') {x : List D} {v : List V} (h : Reps K (Fav F0 ρ σ) H x v) : Reps K (Fav F0 ρ' σ') H' x v :=
  h.mono (fun c z => z.elim (fun z => .inl (.inl z)) fun z => (a.own c z).elim (fun q => .inl (.inr q)) .inr) fun c o e n => a.keep c o e fun z => n (.inr z)

section
variable {K : PySem.W.Frag} {F0 : Addr → Prop} {ρ : En} {σ : St} {H H' : Hp}
theorem Rl.fav_alc (R : Rl K F0 ρ σ H) : ∀ a, Fav F0 ρ σ a → ∃ o, H a = some o := fun a h => by
  rcases h with h | ⟨i, u, e, s⟩
  · exact R.alc a h
  · obtain ⟨a', s', h', _⟩ := R.own i u (SV.has_owned s) e
    rw [s'] at s
    exact h'.alc s
theorem Rl.not_fav (R : Rl K F0 ρ σ H) {p : Addr} (h : H p = none) : ¬ Fav F0 ρ σ p := fun z => by
  obtain ⟨o, e⟩ := R.fav_alc p z
  rw [h] at e; cases e
/-- all that was tracked is kept -/
theorem Rl.same (R : Rl K F0 ρ σ H) (k : Same H H') : Rl K F0 ρ σ H' := by
  have m : ∀ a, Fav F0 ρ σ a → Fav F0 ρ σ a ∨ H a = none := fun _ z => .inl z
  have m2 : ∀ a o, H a = some o → ¬ Fav F0 ρ σ a → H' a = some o := fun a o e _ => k a o e
  refine ⟨R.len, fun i x e => ?_, fun i u w e => ?_, R.inj, fun a h => ?_, R.obj⟩
  · obtain ⟨v, e1, r⟩ := R.dat i x e
    exact ⟨v, e1, r.mono m m2⟩
  · obtain ⟨a, e1, r, n⟩ := R.own i u w e
    refine ⟨a, e1, r.mono m m2 fun c hc => ?_, n⟩
    obtain ⟨o, ho⟩ := r.alc hc
    rw [ho, k _ _ ho]
  · obtain ⟨o, e⟩ := R.alc a h
    exact ⟨o, k _ _ e⟩
theorem Stp.same (k : Same H H') : Stp ρ σ H ρ σ H' := ⟨fun a o e _ => k a o e, fun _ h => .inl h, fun a e => Same.free k e, fun _ ds e => ⟨rfl, ds, e⟩, fun _ ds e => ⟨rfl, ds, e, rfl⟩, rfl⟩
theorem Same.new {p : Addr} (h : H p = none) (o : HO) : Same H (upd H p o) := fun b u q => by rw [upd_ne (ne_of_none q h)]; exact q
/-- fewer addresses to be kept from -/
theorem Rl.less {F1 : Addr → Prop} (R : Rl K F1 ρ σ H) (k : ∀ a, F0 a → F1 a) : Rl K F0 ρ σ H := by
  have m : ∀ a, Fav F0 ρ σ a → Fav F1 ρ σ a ∨ H a = none := fun a z => .inl (z.elim (fun z => .inl (k a z)) .inr)
  have m2 : ∀ a o, H a = some o → ¬ Fav F1 ρ σ a → H a = some o := fun a o e _ => e
  refine ⟨R.len, fun i x e => ?_, fun i u w e => ?_, R.inj, fun a h => R.alc a (k a h), R.obj⟩
  · obtain ⟨v, e1, r⟩ := R.dat i x e
    exact ⟨v, e1, r.mono m m2⟩
  · obtain ⟨a, e1, r, n⟩ := R.own i u w e
    exact ⟨a, e1, r.mono m m2 fun _ _ => rfl, fun c hc z => n c hc (k c z)⟩
end

/-! ### one slot anew -/
/-- what a slot holds against what stands there -/
def Fits (K : PySem.W.Frag) (F : Addr → Prop) (H : Hp) (w : Option SV) (v : Option V) : Prop := match w with
  | none => True
  | some (.d x) => ∃ v', v = some v' ∧ Rep K F H x v'
  | some (.ex a) => v = some (.ref a)
  | some u => ∃ a, v = some (.ref a) ∧ Hold K F H u a
/-- slot i owns it -/
def OwnAt (ρ : En) (σ : St) (i : Nat) (a : Addr) : Prop := ∃ u, ρ[i]? = some (some u) ∧ u.has σ[i]? a
theorem OwnAt.own {ρ : En} {σ : St} {i : Nat} {a : Addr} (h : OwnAt ρ σ i a) : Own ρ σ a := by obtain ⟨u, e, s⟩ := h; exact ⟨i, u, e, s⟩
section
variable {K : PySem.W.Frag} {F0 : Addr → Prop} {ρ : En} {σ : St} {H H' : Hp} {i : Nat} {w : Option SV} {v : Option V}
/-- slot i anew; P: what it takes over that nobody had -/
theorem Rl.setP {P : Addr → Prop} (R : Rl K (fun a => F0 a ∨ P a) ρ σ H) (hP : ∀ c, P c → ¬ F0 c) (hi : i < ρ.length)
    (hk : ∀ a o, H a = some o → ¬ OwnAt ρ σ i a → ¬ P a → H' a = some o)
    (new : ∀ u c, w = some u → u.has (some v) c → OwnAt ρ σ i c ∨ P c ∨ H c = none)
    (fit : (∀ {x : D} {y : V}, Rep K (Fav (fun a => F0 a ∨ P a) ρ σ) H x y → Rep K (Fav F0 (ρ.set i w) (σ.set i v)) H' x y) → Fits K (Fav F0 (ρ.set i w) (σ.set i v)) H' w v) :
    Rl K F0 (ρ.set i w) (σ.set i v) H' ∧ ∀ a, Own (ρ.set i w) (σ.set i v) a → Own ρ σ a ∨ ∃ u, w = some u ∧ u.has (some v) a := by
  have hi2 : i < σ.length := by rw [← R.len]; exact hi
  have e0 : (ρ.set i w)[i]? = some w := List.getElem?_set_self hi
  have s0 : (σ.set i v)[i]? = some v := List.getElem?_set_self hi2
  have e1 : ∀ j, j ≠ i → (ρ.set i w)[j]? = ρ[j]? := fun j h => List.getElem?_set_ne (Ne.symm h)
  have s1 : ∀ j, j ≠ i → (σ.set i v)[j]? = σ[j]? := fun j h => List.getElem?_set_ne (Ne.symm h)
  have own' : ∀ a, Own (ρ.set i w) (σ.set i v) a → Own ρ σ a ∨ ∃ u, w = some u ∧ u.has (some v) a := fun a ⟨j, u, e, s⟩ => by
    by_cases hj : j = i
    · subst hj
      rw [e0] at e
      rw [s0] at s
      exact .inr ⟨u, Option.some.inj e, s⟩
    · rw [e1 j hj] at e
      rw [s1 j hj] at s
      exact .inl ⟨j, u, e, s⟩
  have m : ∀ a, Fav F0 (ρ.set i w) (σ.set i v) a → Fav (fun a => F0 a ∨ P a) ρ σ a ∨ H a = none := fun a z => by
    rcases z with z | z
    · exact .inl (.inl (.inl z))
    · rcases own' a z with z | ⟨u, e, s⟩
      · exact .inl (.inr z)
      · rcases new u a e s with z | z | z
        · exact .inl (.inr z.own)
        · exact .inl (.inl (.inr z))
        · exact .inr z
  have m2 : ∀ a o, H a = some o → ¬ Fav (fun a => F0 a ∨ P a) ρ σ a → H' a = some o := fun a o e n => hk a o e (fun z => n (.inr z.own)) fun z => n (.inl (.inr z))
  have Rm : ∀ {x : D} {v' : V}, Rep K (Fav (fun a => F0 a ∨ P a) ρ σ) H x v' → Rep K (Fav F0 (ρ.set i w) (σ.set i v)) H' x v' := fun r => r.mono m m2
  have F := fit Rm
  have out : ∀ {j : Nat} {u : SV} {c : Addr}, j ≠ i → ρ[j]? = some (some u) → u.has σ[j]? c → ¬ OwnAt ρ σ i c := fun {j u c} hj e s ⟨u', e', s'⟩ => hj (R.inj j i u u' c e e' s s')
  have outP : ∀ {j : Nat} {u : SV} {c : Addr}, ρ[j]? = some (some u) → u.has σ[j]? c → ¬ P c := fun {j u c} e s z => by
    obtain ⟨_, _, _, n⟩ := R.own j u (SV.has_owned s) e
    exact n c s (.inr z)
  have nf : ∀ c, OwnAt ρ σ i c ∨ P c ∨ H c = none → ¬ F0 c := fun c h z => by
    rcases h with ⟨u, e, s⟩ | h | h
    · obtain ⟨_, _, _, n⟩ := R.own i u (SV.has_owned s) e
      exact n c s (.inl z)
    · exact hP c h z
    · obtain ⟨o, ho⟩ := R.alc c (.inl z)
      rw [h] at ho; cases ho
  have two : ∀ {j : Nat} {u1 u2 : SV} {c : Addr}, j ≠ i → w = some u1 → u1.has (some v) c → ρ[j]? = some (some u2) → u2.has σ[j]? c → False := fun {j u1 u2 c} hj ew s1' e2 s2 => by
    rcases new u1 c ew s1' with z | z | z
    · exact out hj e2 s2 z
    · exact outP e2 s2 z
    · obtain ⟨a, ea, r, n⟩ := R.own j u2 (SV.has_owned s2) e2
      rw [ea] at s2
      obtain ⟨o, ho⟩ := r.alc s2
      rw [z] at ho; cases ho
  refine ⟨⟨?_, fun j x e => ?_, fun j u ow e => ?_, fun j k u1 u2 c ej ek sj sk => ?_, fun a z => ?_, fun j a e => ?_⟩, own'⟩
  · rw [List.length_set, List.length_set]; exact R.len
  · by_cases hj : j = i
    · subst hj
      rw [e0] at e
      have ew : w = some (.d x) := Option.some.inj e
      subst ew
      obtain ⟨v', ev, r⟩ := F
      exact ⟨v', by rw [s0, ev], r⟩
    · rw [e1 j hj] at e
      obtain ⟨v', ev, r⟩ := R.dat j x e
      exact ⟨v', by rw [s1 j hj]; exact ev, Rm r⟩
  · by_cases hj : j = i
    · subst hj
      rw [e0] at e
      have ew : w = some u := Option.some.inj e
      have F' : ∃ a, v = some (.ref a) ∧ Hold K (Fav F0 (ρ.set j w) (σ.set j v)) H' u a := by
        subst ew
        cases u with
        | d x => cases ow
        | ex x => cases ow
        | own b ds => exact F
        | dct x => exact F
        | tre b es => exact F
      obtain ⟨a, ea, r⟩ := F'
      rw [s0]
      exact ⟨a, by rw [ea], r, fun c hc => nf c (new u c ew hc)⟩
    · rw [e1 j hj] at e
      obtain ⟨a, ea, r, n⟩ := R.own j u ow e
      rw [s1 j hj]
      refine ⟨a, ea, r.mono m m2 fun c hc => ?_, fun c hc z => n c hc (.inl z)⟩
      obtain ⟨o, ho⟩ := r.alc hc
      have hc' : u.has σ[j]? c := by rw [ea]; exact hc
      rw [ho]
      exact hk c o ho (out hj e hc') (outP e hc')
  · by_cases hj : j = i
    · by_cases hk' : k = i
      · rw [hj, hk']
      · subst hj
        rw [e0] at ej
        rw [s0] at sj
        rw [e1 k hk'] at ek
        rw [s1 k hk'] at sk
        exact (two hk' (Option.some.inj ej) sj ek sk).elim
    · by_cases hk' : k = i
      · subst hk'
        rw [e0] at ek
        rw [s0] at sk
        rw [e1 j hj] at ej
        rw [s1 j hj] at sj
        exact (two hj (Option.some.inj ek) sk ej sj).elim
      · rw [e1 j hj] at ej
        rw [s1 j hj] at sj
        rw [e1 k hk'] at ek
        rw [s1 k hk'] at sk
        exact R.inj j k u1 u2 c ej ek sj sk
  · obtain ⟨o, e⟩ := R.alc a (.inl z)
    exact ⟨o, hk a o e (fun ow => nf a (.inl ow) z) fun p => hP a p z⟩
  · by_cases hj : j = i
    · subst hj
      rw [e0] at e
      have ew : w = some (.ex a) := Option.some.inj e
      subst ew
      rw [s0]
      exact congrArg some F
    · rw [e1 j hj] at e
      rw [s1 j hj]
      exact R.obj j a e
theorem Stp.setI (hk : ∀ a o, H a = some o → ¬ Own ρ σ a → H' a = some o) (hal : ∀ a, H' a = none → H a = none)
    (own' : ∀ a, Own (ρ.set i w) (σ.set i v) a → Own ρ σ a ∨ H a = none) (hi : i < ρ.length) (hi2 : i < σ.length)
    (io1 : ∀ ds, ρ[i]? = some (some (.own true ds)) → σ[i]? = some v ∧ ∃ ds', w = some (.own true ds'))
    (io2 : ∀ es, ρ[i]? = some (some (.tre true es)) → σ[i]? = some v ∧ ∃ es', w = some (.tre true es') ∧ innE es' = innE es) : Stp ρ σ H (ρ.set i w) (σ.set i v) H' := by
  have e0 : (ρ.set i w)[i]? = some w := List.getElem?_set_self hi
  have s0 : (σ.set i v)[i]? = some v := List.getElem?_set_self hi2
  refine ⟨hk, own', hal, fun j ds e => ?_, fun j es e => ?_, List.length_set⟩
  · by_cases hj : j = i
    · subst hj
      obtain ⟨a, ds', b⟩ := io1 ds e
      exact ⟨by rw [s0, a], ds', by rw [e0, b]⟩
    · exact ⟨List.getElem?_set_ne (Ne.symm hj), ds, by rw [List.getElem?_set_ne (Ne.symm hj)]; exact e⟩
  · by_cases hj : j = i
    · subst hj
      obtain ⟨a, es', b, c⟩ := io2 es e
      exact ⟨by rw [s0, a], es', by rw [e0, b], c⟩
    · exact ⟨List.getElem?_set_ne (Ne.symm hj), es, by rw [List.getElem?_set_ne (Ne.symm hj)]; exact e, rfl⟩
theorem Rl.set (R : Rl K F0 ρ σ H) (hi : i < ρ.length)
    (hk : ∀ a o, H a = some o → ¬ OwnAt ρ σ i a → H' a = some o) (hal : ∀ a, H' a = none → H a = none)
    (new : ∀ u c, w = some u → u.has (some v) c → OwnAt ρ σ i c ∨ H c = none)
    (io1 : ∀ ds, ρ[i]? = some (some (.own true ds)) → σ[i]? = some v ∧ ∃ ds', w = some (.own true ds'))
    (io2 : ∀ es, ρ[i]? = some (some (.tre true es)) → σ[i]? = some v ∧ ∃ es', w = some (.tre true es') ∧ innE es' = innE es)
    (fit : (∀ {x : D} {y : V}, Rep K (Fav F0 ρ σ) H x y → Rep K (Fav F0 (ρ.set i w) (σ.set i v)) H' x y) → Fits K (Fav F0 (ρ.set i w) (σ.set i v)) H' w v) :
    Rl K F0 (ρ.set i w) (σ.set i v) H' ∧ Stp ρ σ H (ρ.set i w) (σ.set i v) H' := by
  have R' : Rl K (fun a => F0 a ∨ False) ρ σ H := R.less fun a z => z.elim id False.elim
  obtain ⟨R1, less⟩ := R'.setP (P := fun _ => False) (w := w) (v := v) (H' := H') (fun _ z => z.elim) hi (fun a o e n _ => hk a o e n) (fun u c e s => (new u c e s).imp id .inr) fun k => fit fun r => k (r.mono (fun a z => .inl (z.imp (fun z => z.elim id False.elim) id)) fun _ _ e _ => e)
  refine ⟨R1, Stp.setI (fun a o e n => hk a o e fun z => n z.own) hal (fun a z => ?_) hi (by rw [← R.len]; exact hi) io1 io2⟩
  rcases less a z with z | ⟨u, e, s⟩
  · exact .inl z
  · exact (new u a e s).imp (·.own) id
theorem Rl.gone (R : Rl K F0 ρ σ H) (hi : i < ρ.length) {c : Addr} (hc : OwnAt ρ σ i c) (hw : ∀ u, w = some u → ¬ u.has (some v) c) : ¬ Fav F0 (ρ.set i w) (σ.set i v) c := fun z => by
  obtain ⟨u0, e0, s0⟩ := hc
  rcases z with z | ⟨j, u, e, s⟩
  · obtain ⟨_, _, _, n⟩ := R.own i u0 (SV.has_owned s0) e0
    exact n c s0 z
  · by_cases hj : j = i
    · subst hj
      rw [List.getElem?_set_self hi] at e
      rw [List.getElem?_set_self (by rw [← R.len]; exact hi)] at s
      exact hw u (Option.some.inj e) s
    · rw [List.getElem?_set_ne (Ne.symm hj)] at e
      rw [List.getElem?_set_ne (Ne.symm hj)] at s
      exact hj (R.inj j i u u0 c e e0 s s0)
theorem set_same {α : Type} {l : List α} {i : Nat} {x : α} (h : l[i]? = some x) : l.set i x = l := by
  apply List.ext_getElem?
  intro j
  rw [List.getElem?_set]
  split
  · rename_i ej
    subst ej
    rw [if_pos (List.getElem?_eq_some_iff.mp h).1, h]
  · rfl
theorem no_has {u : SV} {x : Option (Option V)} {c : Addr} (h : u.owned = false) : ¬ u.has x c := fun z => by rw [SV.has_owned z] at h; cases h
theorem own_has {b : Bool} {ds : List D} {v : Option V} {c : Addr} (h : (SV.own b ds).has (some v) c) : v = some (.ref c) := by
  rcases h with ⟨_, h⟩ | h
  · exact Option.some.inj h
  · cases h
end

/-! ### readings from runs -/
/-- an exception as it lies: its class, its own dict -/
def ExRep (mg : Str → Option Value) (e : Exn) (cv : Value) (d : Option Addr) (H : Hp) : Prop :=
  mg e.cls = some cv ∧ match e.fld with
    | none => d = none
    | some (f, n) => ∃ a, d = some a ∧ H a = some (.xd [(f, V.int n)])
def plus (F0 : Addr → Prop) (p : Addr) : Addr → Prop := fun a => F0 a ∨ a = p
section
variable (X : Cx) (W : WX)
/-- an expression's outcome: good if it comes to an end, the wish if it raises -/
def Out (F0 : Addr → Prop) (ρ : En) (σ : St) (H : Hp) {α : Type} (good : α → En → Prop) : Rs α → Prop
  | .ok x ρ' => good x ρ'
  | .exc e ρ' => ∀ cv d H', Rl X.K F0 ρ' σ H' → Stp ρ σ H ρ' σ H' → ExRep X.mg e cv d H' → W cv d σ H'
  | .bad => False
def gE (F0 : Addr → Prop) (ρ : En) (σ : St) (H : Hp) (Q : VK) (x : D) (ρ' : En) : Prop :=
  ∀ v H', Rl X.K F0 ρ' σ H' → Stp ρ σ H ρ' σ H' → Rep X.K (Fav F0 ρ' σ) H' x v → Q v H'
def tE (f : M D) : TE := fun σ H Q => ∃ F0 ρ, Rl X.K F0 ρ σ H ∧ Out X W F0 ρ σ H (gE X F0 ρ σ H Q) (f ρ)
/-- a new list that nobody else holds -/
def gF (F0 : Addr → Prop) (ρ : En) (σ : St) (H : Hp) (Q : VK) (ds : List D) (ρ' : En) : Prop :=
  ∀ p vs H', Rl X.K (plus F0 p) ρ' σ H' → Stp ρ σ H ρ' σ H' → H p = none → H' p = some (.lst vs) → Reps X.K (Fav (plus F0 p) ρ' σ) H' ds vs → Q (.ref p) H'
def tF (f : M (List D)) : TE := fun σ H Q => ∃ F0 ρ, Rl X.K F0 ρ σ H ∧ Out X W F0 ρ σ H (gF X F0 ρ σ H Q) (f ρ)
/-- a test -/
def gT (F0 : Addr → Prop) (ρ : En) (σ : St) (H : Hp) (Q : Bool → Hp → Prop) (b : Bool) (ρ' : En) : Prop :=
  ∀ H', Rl X.K F0 ρ' σ H' → Stp ρ σ H ρ' σ H' → Q b H'
def tT (f : M Bool) : TT := fun σ H Q => ∃ F0 ρ, Rl X.K F0 ρ σ H ∧ Out X W F0 ρ σ H (gT X F0 ρ σ H Q) (f ρ)
/-- several data -/
def gA (F0 : Addr → Prop) (ρ : En) (σ : St) (H : Hp) (Q : List V → Hp → Prop) (xs : List D) (ρ' : En) : Prop :=
  ∀ vs H', Rl X.K F0 ρ' σ H' → Stp ρ σ H ρ' σ H' → Reps X.K (Fav F0 ρ' σ) H' xs vs → Q vs H'
def tA (f : M (List D)) : TA := fun σ H Q => ∃ F0 ρ, Rl X.K F0 ρ σ H ∧ Out X W F0 ρ σ H (gA X F0 ρ σ H Q) (f ρ)
/-- an element of a new list of lists -/
inductive TL where
  | d (x : D) | l (ds : List D)
def shapeE : List El → List TL
  | [] => []
  | .d x :: r => .d x :: shapeE r
  | .p _ ds :: r => .l ds :: shapeE r
/-- kept from, besides: what the tree at p holds -/
def plusT (F0 : Addr → Prop) (p : Addr) (es : List El) : Addr → Prop := fun a => F0 a ∨ (a = p ∨ a ∈ innE es)
/-- statements -/
inductive Flow where
  | nx | bk | ct | rt (x : D) | rf (ds : List D) | rtr (ts : List TL)
def OutS (F0 : Addr → Prop) (ρ : En) (σ : St) (H : Hp) (Ds : Ends) : Rs Flow → Prop
  | .ok .nx ρ' => ∀ σ' H', Rl X.K F0 ρ' σ' H' → Stp ρ σ H ρ' σ' H' → Ds.nx σ' H'
  | .ok .bk ρ' => ∀ σ' H', Rl X.K F0 ρ' σ' H' → Stp ρ σ H ρ' σ' H' → Ds.bk σ' H'
  | .ok .ct ρ' => ∀ σ' H', Rl X.K F0 ρ' σ' H' → Stp ρ σ H ρ' σ' H' → Ds.ct σ' H'
  | .ok (.rt x) ρ' => ∀ v σ' H', Rl X.K F0 ρ' σ' H' → Stp ρ σ H ρ' σ' H' → Rep X.K (Fav F0 ρ' σ') H' x v → Ds.rt v H'
  | .ok (.rf ds) ρ' => ∀ p vs σ' H', Rl X.K (plus F0 p) ρ' σ' H' → Stp ρ σ H ρ' σ' H' → (Own ρ σ p ∨ H p = none) → H' p = some (.lst vs) → Reps X.K (Fav (plus F0 p) ρ' σ') H' ds vs → Ds.rt (.ref p) H'
  | .ok (.rtr ts) ρ' => ∀ p es σ' H', Rl X.K (plusT F0 p es) ρ' σ' H' → Stp ρ σ H ρ' σ' H' → (∀ c, c = p ∨ c ∈ innE es → Own ρ σ c ∨ H c = none) → shapeE es = ts → Hold X.K (Fav (plusT F0 p es) ρ' σ') H' (.tre false es) p → Ds.rt (.ref p) H'
  | .exc e ρ' => ∀ cv d σ' H', Rl X.K F0 ρ' σ' H' → Stp ρ σ H ρ' σ' H' → ExRep X.mg e cv d H' → W cv d σ' H'
  | .bad => False
def tS (g : M Flow) : TS := fun Ds σ H => ∃ F0 ρ, Rl X.K F0 ρ σ H ∧ OutS X W F0 ρ σ H Ds (g ρ)
end
abbrev SE (X : Cx) (W : WX) (f : M D) (e : Expr) : Prop := PE X e (tE X W f)
abbrev SF (X : Cx) (W : WX) (f : M (List D)) (e : Expr) : Prop := PE X e (tF X W f)
abbrev ST (X : Cx) (W : WX) (f : M Bool) (e : Expr) : Prop := PT X e (tT X W f)
abbrev SW (X : Cx) (W : WX) (f : M Bool) (e : Expr) : Prop := PW X e (tT X W f)
abbrev SA (X : Cx) (W : WX) (f : M (List D)) (es : List Expr) : Prop := PA X es (tA X W f)
abbrev SS (X : Cx) (W : WX) (g : M Flow) (st : Stmt) : Prop := PS X st (tS X W g)
abbrev SSs (X : Cx) (W : WX) (g : M Flow) (st : List Stmt) : Prop := PSs X st (tS X W g)

theorem _root_.L2.PE.imp {X : Cx} {e : Expr} {t t' : TE} (h : PE X e t) (k : ∀ σ H Q, t' σ H Q → t σ H Q) : PE X e t' := ⟨fun pins s σ H Q I q => h.run pins s σ H Q I (k _ _ _ q)⟩
theorem _root_.L2.PT.imp {X : Cx} {e : Expr} {t t' : TT} (h : PT X e t) (k : ∀ σ H Q, t' σ H Q → t σ H Q) : PT X e t' := ⟨fun pins s σ H Q I q => h.run pins s σ H Q I (k _ _ _ q)⟩
theorem _root_.L2.PW.imp {X : Cx} {e : Expr} {t t' : TT} (h : PW X e t) (k : ∀ σ H Q, t' σ H Q → t σ H Q) : PW X e t' := ⟨fun wh pins s σ H Q I q => h.run wh pins s σ H Q I (k _ _ _ q)⟩
theorem _root_.L2.PA.imp {X : Cx} {e : List Expr} {t t' : TA} (h : PA X e t) (k : ∀ σ H Q, t' σ H Q → t σ H Q) : PA X e t' := ⟨fun pos pins s σ H Q I q => h.run pos pins s σ H Q I (k _ _ _ q)⟩
theorem _root_.L2.PS.imp {X : Cx} {e : Stmt} {t t' : TS} (h : PS X e t) (k : ∀ D σ H, t' D σ H → t D σ H) : PS X e t' := ⟨fun pins s σ H D I q => h.run pins s σ H D I (k _ _ _ q)⟩
theorem _root_.L2.PSs.imp {X : Cx} {e : List Stmt} {t t' : TS} (h : PSs X e t) (k : ∀ D σ H, t' D σ H → t D σ H) : PSs X e t' := ⟨fun pins s σ H D I q => h.run pins s σ H D I (k _ _ _ q)⟩

/-! ### how outcomes are put one behind another -/
section
variable {X : Cx} {W : WX} {F0 : Addr → Prop} {ρ ρ1 : En} {σ : St} {H H1 : Hp} {α β : Type} {good : α → En → Prop}
/-- from a later state -/
theorem Out.step (S : Stp ρ σ H ρ1 σ H1) {r : Rs α} (o : Out X W F0 ρ σ H good r) : Out X W F0 ρ1 σ H1 good r := by
  cases r with
  | ok x ρ' => exact o
  | exc e ρ' => exact fun cv d H' R T x => o cv d H' R (S.trans T) x
  | bad => exact o
theorem Out.imp {good' : α → En → Prop} {r : Rs α} (o : Out X W F0 ρ σ H good r) (k : ∀ x ρ', good x ρ' → good' x ρ') : Out X W F0 ρ σ H good' r := by
  cases r with
  | ok x ρ' => exact k _ _ o
  | exc e ρ' => exact o
  | bad => exact o
theorem Out.bind {f : M β} {g : β → M α} (o : Out X W F0 ρ σ H good (mbind f g ρ)) : Out X W F0 ρ σ H (fun x ρ' => Out X W F0 ρ σ H good (g x ρ')) (f ρ) := by
  unfold mbind at o
  cases e : f ρ with
  | ok x ρ' => rw [e] at o; exact o
  | exc x ρ' => rw [e] at o; exact o
  | bad => rw [e] at o; exact o
theorem Out.opt {o : Option α} (h : Out X W F0 ρ σ H good (mopt o ρ1)) : ∃ x, o = some x ∧ good x ρ1 := by
  cases o with
  | none => exact h.elim
  | some x => exact ⟨x, rfl, h⟩
/-- an expression first, then the rest -/
theorem seqE {f : M D} {g : D → M α} {Q : VK} (R : Rl X.K F0 ρ σ H) (o : Out X W F0 ρ σ H good (mbind f g ρ))
    (k : ∀ x ρ1 v H1, Rl X.K F0 ρ1 σ H1 → Stp ρ σ H ρ1 σ H1 → Rep X.K (Fav F0 ρ1 σ) H1 x v → Out X W F0 ρ1 σ H1 good (g x ρ1) → Q v H1) : tE X W f σ H Q :=
  ⟨F0, ρ, R, o.bind.imp fun x ρ1 o1 v H1 R1 S1 r1 => k x ρ1 v H1 R1 S1 r1 (o1.step S1)⟩
theorem seqT {f : M Bool} {g : Bool → M α} {Q : Bool → Hp → Prop} (R : Rl X.K F0 ρ σ H) (o : Out X W F0 ρ σ H good (mbind f g ρ))
    (k : ∀ x ρ1 H1, Rl X.K F0 ρ1 σ H1 → Stp ρ σ H ρ1 σ H1 → Out X W F0 ρ1 σ H1 good (g x ρ1) → Q x H1) : tT X W f σ H Q :=
  ⟨F0, ρ, R, o.bind.imp fun x ρ1 o1 H1 R1 S1 => k x ρ1 H1 R1 S1 (o1.step S1)⟩
theorem seqA {f : M (List D)} {g : List D → M α} {Q : List V → Hp → Prop} (R : Rl X.K F0 ρ σ H) (o : Out X W F0 ρ σ H good (mbind f g ρ))
    (k : ∀ x ρ1 v H1, Rl X.K F0 ρ1 σ H1 → Stp ρ σ H ρ1 σ H1 → Reps X.K (Fav F0 ρ1 σ) H1 x v → Out X W F0 ρ1 σ H1 good (g x ρ1) → Q v H1) : tA X W f σ H Q :=
  ⟨F0, ρ, R, o.bind.imp fun x ρ1 o1 v H1 R1 S1 r1 => k x ρ1 v H1 R1 S1 r1 (o1.step S1)⟩
theorem seqF {f : M (List D)} {g : List D → M α} {Q : VK} (R : Rl X.K F0 ρ σ H) (o : Out X W F0 ρ σ H good (mbind f g ρ))
    (k : ∀ x ρ1 p vs H1, Rl X.K (plus F0 p) ρ1 σ H1 → Stp ρ σ H ρ1 σ H1 → H p = none → H1 p = some (.lst vs) → Reps X.K (Fav (plus F0 p) ρ1 σ) H1 x vs → Out X W F0 ρ1 σ H1 good (g x ρ1) → Q (.ref p) H1) : tF X W f σ H Q :=
  ⟨F0, ρ, R, o.bind.imp fun x ρ1 o1 p vs H1 R1 S1 hp hv r1 => k x ρ1 p vs H1 R1 S1 hp hv r1 (o1.step S1)⟩
/-- the last one -/
theorem endE {f : M D} {Q : VK} {ρ0 : En} {H0 : Hp} (R : Rl X.K F0 ρ σ H) (S : Stp ρ0 σ H0 ρ σ H) (o : Out X W F0 ρ σ H (gE X F0 ρ0 σ H0 Q) (f ρ)) : tE X W f σ H Q :=
  ⟨F0, ρ, R, o.imp fun x ρ1 o1 v H1 R1 S1 r1 => o1 v H1 R1 (S.trans S1) r1⟩
end
end Z

namespace Z
open PySem L2

/-! ### what a value is -/
section
variable {K : PySem.W.Frag} {F : Addr → Prop} {H : Hp} {v : V}
theorem Rep.v_int {i : Int} (h : Rep K F H (.int i) v) : v = .int i := by cases h; rfl
theorem Rep.v_bl {i : Bool} (h : Rep K F H (.bl i) v) : v = .bl i := by cases h; rfl
theorem Rep.v_str {i : Str} (h : Rep K F H (.str i) v) : v = .str i := by cases h; rfl
theorem Rep.v_non (h : Rep K F H .non v) : v = .non := by cases h; rfl
theorem Rep.v_tup {ds : List D} (h : Rep K F H (.tup ds) v) : ∃ a vs, v = .ref a ∧ SqT K H a vs ∧ Reps K F H ds vs := by
  cases h with
  | tup h n r => exact ⟨_, _, rfl, h, r⟩
theorem Rep.v_lst {ds : List D} (h : Rep K F H (.lst ds) v) : ∃ a vs, v = .ref a ∧ SqL K H a vs ∧ Reps K F H ds vs := by
  cases h with
  | lst h n r => exact ⟨_, _, rfl, SqL.of h, r⟩
theorem Rep.v_kls {ds : List D} (h : Rep K F H (.kls ds) v) : ∃ a vs, v = .ref a ∧ SqL K H a vs ∧ Reps K F H ds vs := by
  cases h with
  | kls h n r => exact ⟨_, _, rfl, h, r⟩
/-- as data, or a list that is looked at for the while -/
def Bor (K : PySem.W.Frag) (F : Addr → Prop) (H : Hp) (d : D) (v : V) : Prop := match d with
  | .lst ds => ∃ a vs, v = .ref a ∧ H a = some (.lst vs) ∧ Reps K F H ds vs
  | .dik ks ds => ∃ a kvs, v = .ref a ∧ H a = some (.dK kvs) ∧ kvs.map (·.1) = ks ∧ Reps K F H ds (kvs.map (·.2))
  | .dit ks ds => ∃ a kvs, v = .ref a ∧ H a = some (.dT kvs) ∧ kvs.map (·.1) = ks ∧ Reps K F H ds (kvs.map (·.2))
  | d => Rep K F H d v
theorem Rep.bor {d : D} (h : Rep K F H d v) : Bor K F H d v := by
  cases h with
  | lst h n r => exact ⟨_, _, rfl, h, r⟩
  | non => exact .non
  | bl b => exact .bl b
  | int i => exact .int i
  | str i => exact .str i
  | tup h n r => exact .tup h n r
  | kls h n r => exact .kls h n r
  | dik h n r => exact ⟨_, _, rfl, h, rfl, r⟩
  | dit h n r => exact ⟨_, _, rfl, h, rfl, r⟩
theorem Bor.of {a : Addr} {vs : List V} {ds : List D} (h : H a = some (.lst vs)) (r : Reps K F H ds vs) : Bor K F H (.lst ds) (.ref a) := ⟨a, vs, rfl, h, r⟩
theorem Bor.v_int {i : Int} (h : Bor K F H (.int i) v) : v = .int i := Rep.v_int h
theorem Bor.v_bl {i : Bool} (h : Bor K F H (.bl i) v) : v = .bl i := Rep.v_bl h
theorem Bor.v_str {i : Str} (h : Bor K F H (.str i) v) : v = .str i := Rep.v_str h
theorem Bor.v_non (h : Bor K F H .non v) : v = .non := Rep.v_non h
theorem Bor.v_tup {ds : List D} (h : Bor K F H (.tup ds) v) : ∃ a vs, v = .ref a ∧ SqT K H a vs ∧ Reps K F H ds vs := Rep.v_tup h
theorem Bor.v_lstH {ds : List D} (h : Bor K F H (.lst ds) v) : ∃ a vs, v = .ref a ∧ H a = some (.lst vs) ∧ Reps K F H ds vs := h
theorem Bor.v_lst {ds : List D} (h : Bor K F H (.lst ds) v) : ∃ a vs, v = .ref a ∧ SqL K H a vs ∧ Reps K F H ds vs := by
  obtain ⟨a, vs, e, h, r⟩ := h
  exact ⟨a, vs, e, SqL.of h, r⟩
theorem Bor.v_kls {ds : List D} (h : Bor K F H (.kls ds) v) : ∃ a vs, v = .ref a ∧ SqL K H a vs ∧ Reps K F H ds vs := Rep.v_kls h
def isNonD : D → Bool
  | .non => true
  | _ => false
theorem Bor.nn {d : D} (h : Bor K F H d v) : decide (v = .non) = isNonD d := by
  cases d with
  | non => rw [h.v_non]; rfl
  | bl b => rw [h.v_bl]; rfl
  | int b => rw [h.v_int]; rfl
  | str b => rw [h.v_str]; rfl
  | tup b => obtain ⟨a, vs, rfl, _⟩ := h.v_tup; rfl
  | lst b => obtain ⟨a, vs, rfl, _⟩ := h.v_lst; rfl
  | kls b => obtain ⟨a, vs, rfl, _⟩ := h.v_kls; rfl
  | dik ks b => obtain ⟨a, vs, rfl, _⟩ := h; rfl
  | dit ks b => obtain ⟨a, vs, rfl, _⟩ := h; rfl
end

/-! ### names and constants -/
def mvar (i : Nat) : M D := fun ρ => match ρ[i]? with
  | some (some (.d x)) => .ok x ρ
  | _ => .bad
/-- a list of lists as data -/
def elsD : List El → List D
  | [] => []
  | .d x :: r => x :: elsD r
  | .p _ ds :: r => .lst ds :: elsD r
theorem Els.data {K : PySem.W.Frag} {F : Addr → Prop} {H : Hp} : ∀ {es : List El} {vs : List V}, Els K F H es vs → (∀ c ∈ innE es, ¬ F c) → Reps K F H (elsD es) vs
  | _, _, .nil, _ => .nil
  | _, _, .d h r, n => .cons h (r.data n)
  | _, _, .p e h r, n => .cons (.lst e (n _ List.mem_cons_self) h) (r.data fun c hc => n c (List.mem_cons_of_mem _ hc))
/-- the list that slot i owns is given away: it stays as data -/
def mval (i : Nat) : M D := fun ρ => match ρ[i]? with
  | some (some (.d x)) => .ok x (ρ.set i (some (.d x)))
  | some (some (.own false ds)) => .ok (.lst ds) (ρ.set i (some (.d (.lst ds))))
  | some (some (.dct x)) => .ok x (ρ.set i (some (.d x)))
  | some (some (.tre false es)) => .ok (.lst (elsD es)) (ρ.set i (some (.d (.lst (elsD es)))))
  | _ => .bad
section
variable {X : Cx} {W : WX}
theorem se_pure {e : Expr} {v : V} {x : D} (h : PE X e (tC v)) (r : ∀ F H, Rep X.K F H x v) : SE X W (mpure x) e :=
  h.imp fun σ H Q ⟨F0, ρ, R, o⟩ => o v H R (Stp.refl ρ σ H) (r _ H)
theorem se_int {i j pos} : SE X W (mpure (.int i)) (.Constant (.int i) j pos) := se_pure pe_int fun _ _ => .int i
theorem se_bl {i j pos} : SE X W (mpure (.bl i)) (.Constant (.bool i) j pos) := se_pure pe_bl fun _ _ => .bl i
theorem se_str {i j pos} : SE X W (mpure (.str i)) (.Constant (.str i) j pos) := se_pure pe_str fun _ _ => .str i
theorem se_non {j pos} : SE X W (mpure .non) (.Constant .none j pos) := se_pure pe_non fun _ _ => .non
theorem se_var {i : Nat} {e : Expr} (h : PE X e (tVar i)) : SE X W (mvar i) e := h.imp fun σ H Q ⟨F0, ρ, R, o⟩ => by
  unfold mvar at o
  split at o
  · rename_i x e
    obtain ⟨v, e1, r⟩ := R.dat i x e
    exact ⟨v, e1, o v H R (Stp.refl ρ σ H) r⟩
  · exact o.elim

/-- what a slot owns stays as data -/
theorem freeze {K : PySem.W.Frag} {F0 : Addr → Prop} {ρ : En} {σ : St} {H : Hp} {i : Nat} {u : SV} {x : D} (R : Rl K F0 ρ σ H) (e : ρ[i]? = some (some u)) (w : u.owned = true) (nio : ∀ ds, u ≠ .own true ds) (nio2 : ∀ es, u ≠ .tre true es)
    (to : ∀ (F : Addr → Prop) (a : Addr), Hold K F H u a → (∀ c, u.has (some (some (.ref a))) c → ¬ F c) → Rep K F H x (.ref a)) :
    ∃ a, σ[i]? = some (some (.ref a)) ∧ Rl K F0 (ρ.set i (some (.d x))) σ H ∧ Stp ρ σ H (ρ.set i (some (.d x))) σ H ∧ Rep K (Fav F0 (ρ.set i (some (.d x))) σ) H x (.ref a) := by
  obtain ⟨a, e1, r, n⟩ := R.own i u w e
  have hi : i < ρ.length := (List.getElem?_eq_some_iff.mp e).1
  have es : σ.set i (some (.ref a)) = σ := set_same e1
  have nh : ∀ v c, ¬ (SV.d x).has v c := fun v c => no_has rfl
  have rep : Rep K (Fav F0 (ρ.set i (some (.d x))) (σ.set i (some (.ref a)))) H x (.ref a) := by
    have m : ∀ c, Fav F0 (ρ.set i (some (.d x))) (σ.set i (some (.ref a))) c → Fav F0 ρ σ c ∨ H c = none := fun c z => by
      rcases z with z | ⟨j, u', e', s'⟩
      · exact .inl (.inl z)
      · by_cases hj : j = i
        · subst hj
          rw [List.getElem?_set_self hi] at e'
          cases e'
          exact absurd s' (nh _ _)
        · rw [List.getElem?_set_ne (Ne.symm hj)] at e'
          rw [List.getElem?_set_ne (Ne.symm hj)] at s'
          exact .inl (.inr ⟨j, u', e', s'⟩)
    refine to _ a (r.mono m (fun _ _ e _ => e) fun _ _ => rfl) fun c hc => ?_
    exact R.gone hi ⟨u, e, by rw [e1]; exact hc⟩ fun u' e' => by cases e'; exact nh _ _
  obtain ⟨R1, S1⟩ := R.set (w := some (.d x)) (v := some (.ref a)) hi (fun _ _ e _ => e) (fun _ e => e) (fun u' c e' s' => by cases e'; exact absurd s' (nh _ _)) (fun ds e' => by rw [e] at e'; cases e'; exact absurd rfl (nio _)) (fun es e' => by rw [e] at e'; cases e'; exact absurd rfl (nio2 _)) fun _ => ⟨_, rfl, rep⟩
  rw [es] at R1 S1 rep
  exact ⟨a, e1, R1, S1, rep⟩
theorem se_val {i : Nat} {e : Expr} (h : PE X e (tVar i)) : SE X W (mval i) e := h.imp fun σ H Q ⟨F0, ρ, R, o⟩ => by
  unfold mval at o
  split at o
  · rename_i x e
    obtain ⟨v, e1, r⟩ := R.dat i x e
    have same : ρ.set i (some (.d x)) = ρ := by
      apply List.ext_getElem?
      intro j
      rw [List.getElem?_set]
      split
      · rename_i ej
        subst ej
        rw [if_pos (List.getElem?_eq_some_iff.mp e).1, e]
      · rfl
    rw [same] at o
    exact ⟨v, e1, o v H R (Stp.refl ρ σ H) r⟩
  · rename_i ds e
    obtain ⟨a, e1, R1, S1, rep⟩ := freeze (x := .lst ds) R e rfl (fun _ z => by cases z) (fun _ z => by cases z) fun F a h n => by
      cases h with
      | own ha r => exact .lst ha (n a (.inl ⟨rfl, rfl⟩)) r
    exact ⟨_, e1, o _ H R1 S1 rep⟩
  · rename_i x e
    obtain ⟨a, e1, R1, S1, rep⟩ := freeze (x := x) R e rfl (fun _ z => by cases z) (fun _ z => by cases z) fun F a h n => by
      cases h with
      | dik ha r => exact .dik ha (n a (.inl ⟨rfl, rfl⟩)) r
      | dit ha r => exact .dit ha (n a (.inl ⟨rfl, rfl⟩)) r
    exact ⟨_, e1, o _ H R1 S1 rep⟩
  · rename_i es e
    obtain ⟨a, e1, R1, S1, rep⟩ := freeze (x := .lst (elsD es)) R e rfl (fun _ z => by cases z) (fun _ z => by cases z) fun F a h n => by
      cases h with
      | tre ha r nd => exact .lst ha (n a (.inl ⟨rfl, rfl⟩)) (r.data fun c hc => n c (.inr hc))
    exact ⟨_, e1, o _ H R1 S1 rep⟩
  · exact o.elim
/-- a new list as data -/
theorem SF.se {f : M (List D)} {e : Expr} (h : SF X W f e) : SE X W (mbind f fun ds => mpure (.lst ds)) e := h.imp fun σ H Q ⟨F0, ρ, R, o⟩ =>
  seqF R o fun ds ρ1 p vs H1 R1 S1 hp hv r1 o1 => by
    have np : ¬ Own ρ1 σ p := fun ⟨i, u, e, s⟩ => by
      obtain ⟨_, _, _, n⟩ := R1.own i u (SV.has_owned s) e
      exact n p s (.inr rfl)
    have np0 : ¬ F0 p := fun z => by
      obtain ⟨o, e⟩ := R.alc p z
      rw [hp] at e; cases e
    have less : ∀ a, Fav F0 ρ1 σ a → Fav (plus F0 p) ρ1 σ a ∨ H1 a = none := fun a z => .inl (z.imp .inl id)
    exact o1 _ H1 (R1.less fun a z => .inl z) S1 (.lst hv (fun z => z.elim np0 np) (r1.mono less fun _ _ e _ => e))
end

/-! ### two operands -/
/-- the list that slot i owns, as it stands -/
def mown (i : Nat) : M (List D) := fun ρ => match ρ[i]? with
  | some (some (.own _ ds)) => .ok ds ρ
  | _ => .bad
/-- what stands in slot i, looked at -/
def mget (i : Nat) : M D := fun ρ => match ρ[i]? with
  | some (some (.own _ ds)) => .ok (.lst ds) ρ
  | some (some (.d x)) => .ok x ρ
  | some (some (.dct x)) => .ok x ρ
  | _ => .bad
/-- an operand: a value, or what stands in a slot, looked at -/
inductive Opd where
  | val (f : M D) | slot (i : Nat)
def tO (X : Cx) (W : WX) : Opd → TE
  | .val f => tE X W f
  | .slot i => tVar i
abbrev SO (X : Cx) (W : WX) (o : Opd) (e : Expr) : Prop := PE X e (tO X W o)
section
variable {X : Cx} {W : WX} {f g : M D} {a b : Expr} {pos : Pos}
theorem SE.so (h : SE X W f a) : SO X W (.val f) a := h
theorem so_slot {i : Nat} (h : PE X a (tVar i)) : SO X W (.slot i) a := h
theorem own_at {α : Type} {F0 : Addr → Prop} {ρ ρ0 : En} {σ : St} {H H0 : Hp} {good : α → En → Prop} {i : Nat} {k : List D → M α} (R : Rl X.K F0 ρ σ H) (o : Out X W F0 ρ0 σ H0 good (mbind (mown i) k ρ)) :
    ∃ a vs ds, σ[i]? = some (some (.ref a)) ∧ H a = some (.lst vs) ∧ Reps X.K (Fav F0 ρ σ) H ds vs ∧ Out X W F0 ρ0 σ H0 good (k ds ρ) := by
  unfold mbind mown at o
  split at o
  · rename_i x ρ' e
    split at e
    · rename_i b ds e1
      cases e
      obtain ⟨a, vs, e2, e3, r, _⟩ := R.lst i b _ e1
      exact ⟨a, vs, _, e2, e3, r, o⟩
    · cases e
  · rename_i e
    split at e <;> cases e
  · exact o.elim
theorem own_sl {α : Type} {F0 : Addr → Prop} {ρ ρ0 : En} {σ : St} {H H0 : Hp} {good : α → En → Prop} {i : Nat} {k : List D → M α} (o : Out X W F0 ρ0 σ H0 good (mbind (mown i) k ρ)) : ∃ b ds, ρ[i]? = some (some (.own b ds)) := by
  unfold mbind mown at o
  split at o
  · rename_i x ρ' e
    split at e
    · rename_i b ds e1
      exact ⟨b, ds, e1⟩
    · cases e
  · rename_i e
    split at e <;> cases e
  · exact o.elim
theorem get_at {α : Type} {F0 : Addr → Prop} {ρ ρ0 : En} {σ : St} {H H0 : Hp} {good : α → En → Prop} {i : Nat} {k : D → M α} (R : Rl X.K F0 ρ σ H) (o : Out X W F0 ρ0 σ H0 good (mbind (mget i) k ρ)) :
    ∃ v x, σ[i]? = some (some v) ∧ Bor X.K (Fav F0 ρ σ) H x v ∧ Out X W F0 ρ0 σ H0 good (k x ρ) := by
  unfold mbind mget at o
  split at o
  · rename_i x ρ' e
    split at e
    · rename_i b ds e1
      cases e
      obtain ⟨a, vs, e2, e3, r, _⟩ := R.lst i b _ e1
      exact ⟨_, _, e2, Bor.of e3 r, o⟩
    · rename_i y e1
      cases e
      obtain ⟨v, e2, r⟩ := R.dat i _ e1
      exact ⟨v, _, e2, r.bor, o⟩
    · rename_i y e1
      cases e
      obtain ⟨a, e2, r, _⟩ := R.own i _ rfl e1
      refine ⟨_, _, e2, ?_, o⟩
      cases r with
      | dik h r => exact ⟨_, _, rfl, h, rfl, r⟩
      | dit h r => exact ⟨_, _, rfl, h, rfl, r⟩
    · cases e
  · rename_i e
    split at e <;> cases e
  · exact o.elim
def mop2 (sem : D → D → Option D) : Opd → Opd → M D
  | .val f, .val g => mbind f fun x => mbind g fun y => mopt (sem x y)
  | .slot i, .val g => mbind (mget i) fun _ => mbind g fun y => mbind (mget i) fun x => mopt (sem x y)
  | .val f, .slot j => mbind f fun x => mbind (mget j) fun y => mopt (sem x y)
  | .slot i, .slot j => mbind (mget i) fun x => mbind (mget j) fun y => mopt (sem x y)
def mop1 (sem : D → Option D) : Opd → M D
  | .val f => mbind f fun x => mopt (sem x)
  | .slot i => mbind (mget i) fun x => mopt (sem x)
/-- an operation's rule answers as sem does -/
def Sem2 (X : Cx) (r : R2) (sem : D → D → Option D) : Prop := ∀ {F : Addr → Prop} {H : Hp} {x y z : D} {v u : V} {Q : VK}, (∀ a, F a → ∃ o, H a = some o) → Bor X.K F H x v → Bor X.K F H y u → sem x y = some z →
  (∀ w H', Same H H' → Rep X.K F H' z w → Q w H') → r v u H Q
/-- two operands: what holds of both where the operation is done -/
theorem opd2 {α : Type} {r : V → V → Hp → Prop} {F0 : Addr → Prop} {ρ : En} {σ : St} {H : Hp} {good : α → En → Prop} {k : D → D → M α} {p q : Opd} (R : Rl X.K F0 ρ σ H)
    (o : Out X W F0 ρ σ H good ((match p, q with
      | .val f, .val g => mbind f fun x => mbind g fun y => k x y
      | .slot i, .val g => mbind (mget i) fun _ => mbind g fun y => mbind (mget i) fun x => k x y
      | .val f, .slot j => mbind f fun x => mbind (mget j) fun y => k x y
      | .slot i, .slot j => mbind (mget i) fun x => mbind (mget j) fun y => k x y : M α) ρ))
    (h : ∀ x y ρ2 v u H2, Rl X.K F0 ρ2 σ H2 → Stp ρ σ H ρ2 σ H2 → Bor X.K (Fav F0 ρ2 σ) H2 x v → Bor X.K (Fav F0 ρ2 σ) H2 y u → Out X W F0 ρ2 σ H2 good (k x y ρ2) → r v u H2) : tO X W p σ H fun v H1 => tO X W q σ H1 fun u H2 => r v u H2 := by
  cases p with
  | val f =>
    cases q with
    | val g =>
      exact seqE R o fun x ρ1 v H1 R1 S1 r1 o1 => seqE R1 o1 fun y ρ2 u H2 R2 S2 r2 o2 => h x y ρ2 v u H2 R2 (S1.trans S2) (S2.rep r1).bor r2.bor o2
    | slot j =>
      exact seqE R o fun x ρ1 v H1 R1 S1 r1 o1 => by
        obtain ⟨u, y, e1, b2, o2⟩ := get_at R1 o1
        exact ⟨_, e1, h x y ρ1 v u H1 R1 S1 r1.bor b2 o2⟩
  | slot i =>
    cases q with
    | val g =>
      obtain ⟨v, x, e1, b1, o1⟩ := get_at R o
      refine ⟨_, e1, ?_⟩
      exact seqE R o1 fun y ρ2 u H2 R2 S2 r2 o2 => by
        obtain ⟨v', x', e1', b1', o3⟩ := get_at R2 o2
        rw [e1] at e1'; cases e1'
        exact h x' y ρ2 v u H2 R2 S2 b1' r2.bor o3
    | slot j =>
      obtain ⟨v, x, e1, b1, o1⟩ := get_at R o
      obtain ⟨u, y, f1, b2, o2⟩ := get_at R o1
      exact ⟨_, e1, _, f1, h x y ρ v u H R (Stp.refl _ _ _) b1 b2 o2⟩
theorem opd1 {α : Type} {r : V → Hp → Prop} {F0 : Addr → Prop} {ρ : En} {σ : St} {H : Hp} {good : α → En → Prop} {k : D → M α} {p : Opd} (R : Rl X.K F0 ρ σ H)
    (o : Out X W F0 ρ σ H good ((match p with
      | .val f => mbind f fun x => k x
      | .slot i => mbind (mget i) fun x => k x : M α) ρ))
    (h : ∀ x ρ2 v H2, Rl X.K F0 ρ2 σ H2 → Stp ρ σ H ρ2 σ H2 → Bor X.K (Fav F0 ρ2 σ) H2 x v → Out X W F0 ρ2 σ H2 good (k x ρ2) → r v H2) : tO X W p σ H r := by
  cases p with
  | val f => exact seqE R o fun x ρ1 v H1 R1 S1 r1 o1 => h x ρ1 v H1 R1 S1 r1.bor o1
  | slot i =>
    obtain ⟨v, x, e1, b1, o1⟩ := get_at R o
    exact ⟨_, e1, h x ρ v H R (Stp.refl _ _ _) b1 o1⟩
theorem op2_of {r : R2} {sem : D → D → Option D} (h : Sem2 X r sem) {p q : Opd} : ∀ σ H Q, tE X W (mop2 sem p q) σ H Q → tOp r (tO X W p) (tO X W q) σ H Q := fun σ H Q ⟨F0, ρ, R, o⟩ =>
  opd2 (k := fun x y => mopt (sem x y)) (good := gE X F0 ρ σ H Q) R (by cases p <;> cases q <;> exact o) fun x y ρ2 v u H2 R2 S2 b1 b2 o2 => by
    obtain ⟨z, e, q⟩ := Out.opt o2
    exact h R2.fav_alc b1 b2 e fun w H3 k r3 => q w H3 (R2.same k) (S2.trans (Stp.same k)) r3
theorem se_op {op : Operator} {r : R2} {sem : D → D → Option D} (ho : OpR X (binaryOp op) r) (h : Sem2 X r sem) {p q : Opd} (ha : SO X W p a) (hb : SO X W q b) : SE X W (mop2 sem p q) (.BinOp a op b pos) := (pe_op ho ha hb).imp (op2_of h)
theorem se_cmp {op : CmpOp} {r : R2} {sem : D → D → Option D} (ho : OpR X (compareOp op) r) (h : Sem2 X r sem) {p q : Opd} (ha : SO X W p a) (hb : SO X W q b) (hm : behindInMarks op b = false) : SE X W (mop2 sem p q) (.Compare a [op] [b] pos) := (pe_cmpR ho ha hb hm).imp (op2_of h)
/-- .. as a test -/
def toB : D → Option Bool
  | .bl b => some b
  | _ => none
theorem toB_of {K : PySem.W.Frag} {F : Addr → Prop} {H : Hp} {x : D} {v : V} {c : Bool} (r : Rep K F H x v) (e : toB x = some c) : v = .bl c := by
  cases r <;> first | (cases e; rfl) | cases e
def mbool (f : M D) : M Bool := mbind f fun x => mopt (toB x)
theorem st_cmp {op : CmpOp} {r : R2} {sem : D → D → Option D} (ho : OpR X (compareOp op) r) (h : Sem2 X r sem) {p q : Opd} (ha : SO X W p a) (hb : SO X W q b) (hm : behindInMarks op b = false) : ST X W (mbool (mop2 sem p q)) (.Compare a [op] [b] pos) :=
  (pt_cmpR ho ha hb hm).imp fun σ H Q ⟨F0, ρ, R, o⟩ => by
    refine op2_of h σ H _ (seqE R o fun x ρ1 v H1 R1 S1 r1 o1 => ?_)
    obtain ⟨k, e, q⟩ := Out.opt o1
    exact ⟨k, toB_of r1 e, q H1 R1 S1⟩
/-- a value's truth -/
def truD : D → Option Bool
  | .non => some false
  | .bl b => some b
  | .int i => some (i != 0)
  | .str x => if x.length ≤ sizeLine then some ((x.length : Int) != 0) else none
  | .tup ds => some (!ds.isEmpty)
  | .lst ds => some (!ds.isEmpty)
  | .kls ds => some (!ds.isEmpty)
  | _ => none
theorem reps_empty {K : PySem.W.Frag} {F : Addr → Prop} {H : Hp} {ds : List D} {vs : List V} (r : Reps K F H ds vs) : ds.isEmpty = vs.isEmpty := by cases r <;> rfl
theorem tru_of {F : Addr → Prop} {H : Hp} {x : D} {v : V} {k : Bool} (r : Bor X.K F H x v) (e : truD x = some k) : TruV X.K v H k := by
  cases x with
  | non => cases e; rw [r.v_non]; rfl
  | bl b => cases e; rw [r.v_bl]; rfl
  | int i => cases e; rw [r.v_int]; rfl
  | str y =>
    rw [r.v_str]
    have e : (if y.length ≤ sizeLine then some ((y.length : Int) != 0) else none) = some k := e
    split at e
    · rename_i hz; cases e; exact ⟨hz, rfl⟩
    · cases e
  | tup ds => cases e; obtain ⟨a, vs, rfl, h, r⟩ := r.v_tup; exact .inr (.inl ⟨_, h, by rw [reps_empty r]⟩)
  | lst ds => cases e; obtain ⟨a, vs, rfl, h, r⟩ := r.v_lst; exact .inl ⟨_, h, by rw [reps_empty r]⟩
  | kls ds => cases e; obtain ⟨a, vs, rfl, h, r⟩ := r.v_kls; exact .inl ⟨_, h, by rw [reps_empty r]⟩
  | dik ks ds => cases e
  | dit ks ds => cases e
def mtru : Opd → M Bool
  | .val f => mbind f fun x => mopt (truD x)
  | .slot i => mbind (mget i) fun x => mopt (truD x)
theorem st_tru {p : Opd} (ha : SO X W p a) (he : ∀ whole, isTrue a X.env whole = (do let v ← whole; standAt a.pos; holding [v] (truthy v))) : ST X W (mtru p) a :=
  (pt_truth ha he).imp fun σ H Q ⟨F0, ρ, R, o⟩ => opd1 (k := fun x => mopt (truD x)) (good := gT X F0 ρ σ H Q) R (by cases p <;> exact o) fun x ρ2 v H2 R2 S2 b1 o2 => by
    obtain ⟨k, e, q⟩ := Out.opt o2
    exact ⟨k, tru_of b1 e, q H2 R2 S2⟩
/-! and, or, not -/
variable {p q : M Bool} {rest : List Expr}
def mand (p q : M Bool) : M Bool := mbind p fun c => if c = true then q else mpure false
def mor (p q : M Bool) : M Bool := mbind p fun c => if c = true then mpure true else q
def mnot (p : M Bool) : M Bool := mbind p fun c => mpure (!c)
theorem sw_and1 (ha : ST X W p a) : SW X W p (.BoolOp .And [a] pos) := pw_and1 ha
theorem sw_or1 (ha : ST X W p a) : SW X W p (.BoolOp .Or [a] pos) := pw_or1 ha
theorem endT {p : M Bool} {F0 : Addr → Prop} {ρ ρ0 : En} {σ : St} {H H0 : Hp} {Q : Bool → Hp → Prop} (R : Rl X.K F0 ρ σ H) (S : Stp ρ0 σ H0 ρ σ H) (o : Out X W F0 ρ σ H (gT X F0 ρ0 σ H0 Q) (p ρ)) : tT X W p σ H Q :=
  ⟨F0, ρ, R, o.imp fun x ρ1 o1 H1 R1 S1 => o1 H1 R1 (S.trans S1)⟩
theorem sw_and (ha : ST X W p a) (hb : SW X W q (.BoolOp .And (b :: rest) pos)) : SW X W (mand p q) (.BoolOp .And (a :: b :: rest) pos) := (pw_and ha hb).imp fun σ H Q ⟨F0, ρ, R, o⟩ =>
  seqT R o fun c ρ1 H1 R1 S1 o1 => by
    cases c with
    | true => exact iteT (endT R1 S1 o1)
    | false => exact iteF (o1 H1 R1 S1)
theorem sw_or (ha : ST X W p a) (hb : SW X W q (.BoolOp .Or (b :: rest) pos)) : SW X W (mor p q) (.BoolOp .Or (a :: b :: rest) pos) := (pw_or ha hb).imp fun σ H Q ⟨F0, ρ, R, o⟩ =>
  seqT R o fun c ρ1 H1 R1 S1 o1 => by
    cases c with
    | true => exact iteT (o1 H1 R1 S1)
    | false => exact iteF (endT R1 S1 o1)
theorem SW.st {e : Expr} (h : SW X W p e) : ST X W p e := PW.pt h
theorem st_not (ha : ST X W p a) : ST X W (mnot p) (.UnaryOp .Not a pos) := (pt_not ha).imp fun σ H Q ⟨F0, ρ, R, o⟩ => seqT R o fun c ρ1 H1 R1 S1 o1 => o1 H1 R1 S1
/-- .. as values -/
def mandV (f g : M D) : M D := mbind f fun x => mbind (mopt (toB x)) fun c => if c = true then g else mpure (.bl false)
def morV (f g : M D) : M D := mbind f fun x => mbind (mopt (toB x)) fun c => if c = true then mpure (.bl true) else g
def mnotV (f : M D) : M D := mbind f fun x => mbind (mopt (toB x)) fun c => mpure (.bl (!c))
theorem se_one {op} (ha : SE X W f a) : SE X W f (.BoolOp op [a] pos) := pe_one ha
theorem se_and (ha : SE X W f a) (hb : SE X W g (.BoolOp .And (b :: rest) pos)) : SE X W (mandV f g) (.BoolOp .And (a :: b :: rest) pos) := (pe_and ha hb).imp fun σ H Q ⟨F0, ρ, R, o⟩ =>
  seqE R o fun x ρ1 v H1 R1 S1 r1 o1 => by
    obtain ⟨c, e, o2⟩ := Out.opt (Out.bind o1)
    refine ⟨c, toB_of r1 e, ?_⟩
    cases c with
    | true => exact iteT (endE R1 S1 o2)
    | false => exact iteF (o2 _ H1 R1 S1 (.bl false))
theorem se_or (ha : SE X W f a) (hb : SE X W g (.BoolOp .Or (b :: rest) pos)) : SE X W (morV f g) (.BoolOp .Or (a :: b :: rest) pos) := (pe_or ha hb).imp fun σ H Q ⟨F0, ρ, R, o⟩ =>
  seqE R o fun x ρ1 v H1 R1 S1 r1 o1 => by
    obtain ⟨c, e, o2⟩ := Out.opt (Out.bind o1)
    refine ⟨c, toB_of r1 e, ?_⟩
    cases c with
    | true => exact iteT (o2 _ H1 R1 S1 (.bl true))
    | false => exact iteF (endE R1 S1 o2)
theorem se_not (ha : SE X W f a) : SE X W (mnotV f) (.UnaryOp .Not a pos) := (pe_not ha).imp fun σ H Q ⟨F0, ρ, R, o⟩ =>
  seqE R o fun x ρ1 v H1 R1 S1 r1 o1 => by
    obtain ⟨c, e, o2⟩ := Out.opt (Out.bind o1)
    exact ⟨c, toB_of r1 e, o2 _ H1 R1 S1 (.bl _)⟩
def mif {α : Type} (p : M Bool) (f g : M α) : M α := mbind p fun c => if c = true then f else g
theorem se_if {c : Expr} (hc : ST X W p c) (ha : SE X W f a) (hb : SE X W g b) : SE X W (mif p f g) (.IfExp c a b pos) := (pe_ifExp hc ha hb).imp fun σ H Q ⟨F0, ρ, R, o⟩ =>
  seqT R o fun c ρ1 H1 R1 S1 o1 => by
    cases c with
    | true => exact iteT (endE R1 S1 o1)
    | false => exact iteF (endE R1 S1 o1)
/-- one operand -/
def Sem1 (X : Cx) (r : V → Hp → VK → Prop) (sem : D → Option D) : Prop := ∀ {F : Addr → Prop} {H : Hp} {x z : D} {v : V} {Q : VK}, (∀ a, F a → ∃ o, H a = some o) → Bor X.K F H x v → sem x = some z →
  (∀ w H', Same H H' → Rep X.K F H' z w → Q w H') → r v H Q
theorem op1_of {r : V → Hp → VK → Prop} {sem : D → Option D} (h : Sem1 X r sem) {p : Opd} : ∀ σ H Q, tE X W (mop1 sem p) σ H Q → tO X W p σ H (fun v H1 => r v H1 Q) := fun σ H Q ⟨F0, ρ, R, o⟩ =>
  opd1 (k := fun x => mopt (sem x)) (good := gE X F0 ρ σ H Q) R (by cases p <;> exact o) fun x ρ2 v H2 R2 S2 b1 o2 => by
    obtain ⟨z, e, q⟩ := Out.opt o2
    exact h R2.fav_alc b1 e fun w H3 k r3 => q w H3 (R2.same k) (S2.trans (Stp.same k)) r3
theorem se_un {op : UnaryOp} {r : V → Hp → VK → Prop} {sem : D → Option D} (ho : UnR X (unaryOp op) r) (h : Sem1 X r sem) {p : Opd} (ha : SO X W p a) : SE X W (mop1 sem p) (.UnaryOp op a pos) := (pe_un ho ha).imp (op1_of h)
end
end Z

namespace Z
open PySem L2

/-! ### operators -/
def addD : D → D → Option D
  | .int i, .int j => some (.int (i + j))
  | .str x, .str y => if x.length + y.length ≤ sizeLine then some (.str (x ++ y)) else none
  | .tup xs, .tup ys => if xs.length + ys.length ≤ sizeLine then some (.tup (xs ++ ys)) else none
  | _, _ => none
def subD : D → D → Option D
  | .int i, .int j => some (.int (i - j))
  | _, _ => none
def mulOk (i j : Int) : Bool := (decide (-(2 ^ 64) < i) && decide (i < 2 ^ 64)) || (decide (-(2 ^ 64) < j) && decide (j < 2 ^ 64))
def mulD : D → D → Option D
  | .int i, .int j => if mulOk i j = true then some (.int (i * j)) else none
  | _, _ => none
def divD : D → D → Option D
  | .int i, .int j => if 0 < j ∧ j < 1073741824 then some (.int (i / j)) else none
  | _, _ => none
def modD : D → D → Option D
  | .int i, .int j => if 0 < j then some (.int (i % j)) else none
  | _, _ => none
def powOk (i j : Int) : Bool := decide (0 ≤ j) && decide (j ≤ 1000000) && decide (i.natAbs < 2 ^ 64)
def powD : D → D → Option D
  | .int i, .int j => if powOk i j = true then some (.int (i ^ j.toNat)) else none
  | _, _ => none
def shlD : D → D → Option D
  | .int i, .int j => if powOk i j = true then some (.int (i * 2 ^ j.toNat)) else none
  | _, _ => none
def shrD : D → D → Option D
  | .int i, .int j => if 0 ≤ j then some (.int (i / 2 ^ j.toNat)) else none
  | _, _ => none
def andD : D → D → Option D
  | .int i, .int j => some (.int (Builtin.bitAnd i j))
  | _, _ => none
def orD : D → D → Option D
  | .int i, .int j => some (.int (Builtin.bitOr i j))
  | _, _ => none
def xorD : D → D → Option D
  | .int i, .int j => some (.int (Builtin.bitXor i j))
  | _, _ => none
def negD : D → Option D
  | .int i => some (.int (-i))
  | _ => none

section
variable {X : Cx}
theorem sem_ints {r : R2} {sem : D → D → Option D} (h : ∀ {H : Hp} {i j : Int} {z : D} {Q : VK}, sem (.int i) (.int j) = some z → (∀ w, (∀ K F, Rep K F H z w) → Q w H) → r (.int i) (.int j) H Q)
    (hx : ∀ x y z, sem x y = some z → ∃ i j, x = .int i ∧ y = .int j) : Sem2 X r sem := fun al rx ry e q => by
  obtain ⟨i, j, rfl, rfl⟩ := hx _ _ _ e
  rw [rx.v_int, ry.v_int]
  exact h e fun w r => q w _ (Same.refl _) (r _ _)
theorem sem_sub : Sem2 X (rI0 fun i j => .int (i - j)) subD := sem_ints (fun e q => by cases e; exact ⟨_, _, rfl, rfl, q _ fun _ _ => .int _⟩) fun x y z e => by
  unfold subD at e; split at e
  · exact ⟨_, _, rfl, rfl⟩
  · cases e
theorem sem_mul : Sem2 X (rI CMul fun i j => .int (i * j)) mulD := sem_ints (fun {H i j z Q} e q => by
  have e : (if mulOk i j = true then some (D.int (i * j)) else none) = some z := e
  split at e
  · rename_i c; cases e
    refine ⟨_, _, rfl, rfl, ?_, q _ fun _ _ => .int _⟩
    simp only [mulOk, Bool.or_eq_true, Bool.and_eq_true, decide_eq_true_eq] at c
    exact c
  · cases e) fun x y z e => by
  unfold mulD at e; split at e
  · exact ⟨_, _, rfl, rfl⟩
  · cases e
theorem sem_div : Sem2 X (rI CDiv fun i j => .int (i / j)) divD := sem_ints (fun {H i j z Q} e q => by
  have e : (if 0 < j ∧ j < 1073741824 then some (D.int (i / j)) else none) = some z := e
  split at e
  · rename_i c; cases e
    exact ⟨_, _, rfl, rfl, c, q _ fun _ _ => .int _⟩
  · cases e) fun x y z e => by
  unfold divD at e; split at e
  · exact ⟨_, _, rfl, rfl⟩
  · cases e
theorem sem_mod : Sem2 X (rI (fun _ j => 0 < j) fun i j => .int (i % j)) modD := sem_ints (fun {H i j z Q} e q => by
  have e : (if 0 < j then some (D.int (i % j)) else none) = some z := e
  split at e
  · rename_i c; cases e
    exact ⟨_, _, rfl, rfl, c, q _ fun _ _ => .int _⟩
  · cases e) fun x y z e => by
  unfold modD at e; split at e
  · exact ⟨_, _, rfl, rfl⟩
  · cases e
theorem powOk_of {i j : Int} (c : powOk i j = true) : CPow i j := by
  simp only [powOk, Bool.and_eq_true, decide_eq_true_eq] at c
  exact ⟨c.1.1, c.1.2, c.2⟩
theorem sem_pow : Sem2 X (rI CPow fun i j => .int (i ^ j.toNat)) powD := sem_ints (fun {H i j z Q} e q => by
  have e : (if powOk i j = true then some (D.int (i ^ j.toNat)) else none) = some z := e
  split at e
  · rename_i c; cases e
    exact ⟨_, _, rfl, rfl, powOk_of c, q _ fun _ _ => .int _⟩
  · cases e) fun x y z e => by
  unfold powD at e; split at e
  · exact ⟨_, _, rfl, rfl⟩
  · cases e
theorem sem_shl : Sem2 X (rI CPow fun i j => .int (i * 2 ^ j.toNat)) shlD := sem_ints (fun {H i j z Q} e q => by
  have e : (if powOk i j = true then some (D.int (i * 2 ^ j.toNat)) else none) = some z := e
  split at e
  · rename_i c; cases e
    exact ⟨_, _, rfl, rfl, powOk_of c, q _ fun _ _ => .int _⟩
  · cases e) fun x y z e => by
  unfold shlD at e; split at e
  · exact ⟨_, _, rfl, rfl⟩
  · cases e
theorem sem_shr : Sem2 X (rI (fun _ j => 0 ≤ j) fun i j => .int (i / 2 ^ j.toNat)) shrD := sem_ints (fun {H i j z Q} e q => by
  have e : (if 0 ≤ j then some (D.int (i / 2 ^ j.toNat)) else none) = some z := e
  split at e
  · rename_i c; cases e
    exact ⟨_, _, rfl, rfl, c, q _ fun _ _ => .int _⟩
  · cases e) fun x y z e => by
  unfold shrD at e; split at e
  · exact ⟨_, _, rfl, rfl⟩
  · cases e
theorem sem_and : Sem2 X (rI0 fun i j => .int (Builtin.bitAnd i j)) andD := sem_ints (fun e q => by cases e; exact ⟨_, _, rfl, rfl, q _ fun _ _ => .int _⟩) fun x y z e => by
  unfold andD at e; split at e
  · exact ⟨_, _, rfl, rfl⟩
  · cases e
theorem sem_or : Sem2 X (rI0 fun i j => .int (Builtin.bitOr i j)) orD := sem_ints (fun e q => by cases e; exact ⟨_, _, rfl, rfl, q _ fun _ _ => .int _⟩) fun x y z e => by
  unfold orD at e; split at e
  · exact ⟨_, _, rfl, rfl⟩
  · cases e
theorem sem_xor : Sem2 X (rI0 fun i j => .int (Builtin.bitXor i j)) xorD := sem_ints (fun e q => by cases e; exact ⟨_, _, rfl, rfl, q _ fun _ _ => .int _⟩) fun x y z e => by
  unfold xorD at e; split at e
  · exact ⟨_, _, rfl, rfl⟩
  · cases e
theorem sem_neg : Sem1 X (rU fun i => .int (-i)) negD := fun {F H x z v Q} al rx e q => by
  unfold negD at e; split at e
  · cases e; exact ⟨_, rx.v_int, q _ _ (Same.refl _) (.int _)⟩
  · cases e

/-! a new tuple, a new list among what is kept from -/
theorem rep_newT {K : PySem.W.Frag} {F : Addr → Prop} {H : Hp} {ds : List D} {vs : List V} {p : Addr} (al : ∀ a, F a → ∃ o, H a = some o) (hp : H p = none) (r : Reps K F H ds vs) : Rep K F (upd H p (.tup vs)) (.tup ds) (.ref p) :=
  .tup (SqT.of upd_same) (.inl fun z => by obtain ⟨o, e⟩ := al p z; rw [hp] at e; cases e) (r.mono (fun _ z => .inl z) fun a o e _ => Same.new hp _ a o e)
abbrev rAddA (K : PySem.W.Frag) : R2 := fun x y H Q => rI0 (fun i j => V.int (i + j)) x y H Q ∨ (fun x y H Q => (∃ i j, x = V.str i ∧ y = V.str j ∧ i.length + j.length ≤ sizeLine ∧ Q (V.str (i ++ j)) H) ∨ rCatA K x y H Q) x y H Q
theorem op_addA : OpR X (binaryOp .Add) (rAddA X.K) := op_add.or (op_add_str.or op_catA)
theorem sem_add : Sem2 X (rAddA X.K) addD := fun {F H x y z v u Q} al rx ry e q => by
  unfold addD at e
  split at e
  · cases e; exact .inl ⟨_, _, rx.v_int, ry.v_int, q _ _ (Same.refl _) (.int _)⟩
  · split at e
    · rename_i hz; cases e
      exact .inr (.inl ⟨_, _, rx.v_str, ry.v_str, hz, q _ _ (Same.refl _) (.str _)⟩)
    · cases e
  · split at e
    · rename_i hz; cases e
      have rx' : Rep X.K F H (.tup _) v := rx
      have ry' : Rep X.K F H (.tup _) u := ry
      obtain ⟨a, vs, rfl, ha, ra⟩ := rx.v_tup
      obtain ⟨b, us, rfl, hb, rb⟩ := ry.v_tup
      refine .inr (.inr ⟨a, b, vs, us, rfl, rfl, ha, hb, by rw [← ra.length, ← rb.length]; exact hz, fun h0 => ?_, fun _ h0 => ?_, fun _ _ p hp => ?_⟩)
      · subst h0; cases ra; exact q _ _ (Same.refl _) ry'
      · subst h0; cases rb; rw [List.append_nil] at q; exact q _ _ (Same.refl _) rx'
      · exact q _ _ (Same.new hp _) (rep_newT al hp (ra.append rb))
    · cases e
  · cases e

/-! ### comparisons -/
mutual
def toPy : D → PyData
  | .non => .none
  | .bl b => .bool b
  | .int i => .int i
  | .str x => .str x
  | .tup ds => .tuple (toPys ds)
  | .lst ds => .list (toPys ds)
  | .kls ds => .list (toPys ds)
  | .dik _ _ => .dict []
  | .dit _ _ => .dict []
def toPys : List D → List PyData
  | [] => []
  | d :: ds => toPy d :: toPys ds
end
mutual
theorem Rep.dp {K : PySem.W.Frag} {F : Addr → Prop} {H : Hp} : ∀ {d : D} {v : V}, Rep K F H d v → (toPy d).canLay0 = true → Dp K H v (toPy d)
  | _, _, .non, _ => .non
  | _, _, .bl b, _ => .bl b
  | _, _, .int i, _ => .int i
  | _, _, .str x, _ => .str x
  | _, _, .tup h _ r, c => .tup h (r.dps c)
  | _, _, .lst h _ r, c => .lst (SqL.of h) (r.dps c)
  | _, _, .kls h _ r, c => .lst h (r.dps c)
  | _, _, .dik _ _ _, c => by cases c
  | _, _, .dit _ _ _, c => by cases c
theorem Reps.dps {K : PySem.W.Frag} {F : Addr → Prop} {H : Hp} : ∀ {d : List D} {v : List V}, Reps K F H d v → PyData.canLayAll0 (toPys d) = true → DpAll K H v (toPys d)
  | _, _, .nil, _ => .nil
  | _, _, .cons (ds := ds) h r, c => by
    have c' : _ ∧ PyData.canLayAll0 (toPys ds) = true := Bool.and_eq_true_iff.mp c
    exact .cons (h.dp c'.1) (r.dps c'.2)
end
theorem Bor.dp {K : PySem.W.Frag} {F : Addr → Prop} {H : Hp} {d : D} {v : V} (h : Bor K F H d v) (hs : SeqAt.shaped (toPy d) = true) : Dp K H v (toPy d) := by
  have c : (toPy d).canLay0 = true := by
    unfold SeqAt.shaped at hs
    exact (Bool.and_eq_true_iff.mp hs).1
  cases d with
  | lst ds => obtain ⟨a, vs, rfl, h, r⟩ := h; exact .lst (SqL.of h) (r.dps c)
  | kls ds => exact Rep.dp h c
  | non => exact Rep.dp h c
  | bl b => exact Rep.dp h c
  | int b => exact Rep.dp h c
  | str b => exact Rep.dp h c
  | tup b => exact Rep.dp h c
  | dik ks b => cases c
  | dit ks b => cases c
def shp (x : D) : Bool := SeqAt.shaped (toPy x)
def eqB : D → D → Option Bool
  | .int i, .int j => some (decide (i = j))
  | .str i, .str j => some (decide (i = j))
  | .bl i, .bl j => some (decide (i = j))
  | .non, .int _ => some false
  | .int _, .non => some false
  | .non, .non => some true
  | .int _, .str _ => some false
  | .str _, .int _ => some false
  | x, y => if (shp x && shp y) = true then some (PyData.eqv (toPy x) (toPy y)) else none
def eqD (x y : D) : Option D := (eqB x y).map .bl
def neD (x y : D) : Option D := (eqB x y).map fun b => .bl (!b)
abbrev rEqA (K : PySem.W.Frag) : R2 := fun x y H Q => rEq x y H Q ∨ rEqD K x y H Q
abbrev rNeA (K : PySem.W.Frag) : R2 := fun x y H Q => rNe x y H Q ∨ rNeD K x y H Q
theorem op_eqA (hu : X.A.units + 64 < cLine) : OpR X (compareOp .Eq) (rEqA X.K) := op_eq.or (op_eqD hu)
theorem op_neA (hu : X.A.units + 64 < cLine) : OpR X (compareOp .NotEq) (rNeA X.K) := op_ne.or (op_neD hu)
theorem eq_cases {x y : D} {b : Bool} {v u : V} {K : PySem.W.Frag} {F : Addr → Prop} {H : Hp} (rx : Bor K F H x v) (ry : Bor K F H y u) (e : eqB x y = some b) :
    (scal v u = true ∧ decide (v = u) = b) ∨ (Dp K H v (toPy x) ∧ Dp K H u (toPy y) ∧ SeqAt.shaped (toPy x) = true ∧ SeqAt.shaped (toPy y) = true ∧ PyData.eqv (toPy x) (toPy y) = b) := by
  unfold eqB at e
  split at e
  · cases e; rw [rx.v_int, ry.v_int]; refine .inl ⟨rfl, ?_⟩; rw [dec_int]; rw [Bool.eq_iff_iff]; simp
  · cases e; rw [rx.v_str, ry.v_str]; refine .inl ⟨rfl, ?_⟩; rw [dec_str]; rw [Bool.eq_iff_iff]; simp
  · cases e; rw [rx.v_bl, ry.v_bl]; refine .inl ⟨rfl, ?_⟩; rw [dec_bl]; rw [Bool.eq_iff_iff]; simp
  · cases e; rw [rx.v_non, ry.v_int]; exact .inl ⟨rfl, rfl⟩
  · cases e; rw [rx.v_int, ry.v_non]; exact .inl ⟨rfl, rfl⟩
  · cases e; rw [rx.v_non, ry.v_non]; exact .inl ⟨rfl, rfl⟩
  · cases e; rw [rx.v_int, ry.v_str]; exact .inl ⟨rfl, rfl⟩
  · cases e; rw [rx.v_str, ry.v_int]; exact .inl ⟨rfl, rfl⟩
  · split at e
    · rename_i hs; cases e
      rw [Bool.and_eq_true] at hs
      exact .inr ⟨rx.dp hs.1, ry.dp hs.2, hs.1, hs.2, rfl⟩
    · cases e
theorem sem_eq : Sem2 X (rEqA X.K) eqD := fun {F H x y z v u Q} al rx ry e q => by
  unfold eqD at e
  cases e' : eqB x y with
  | none => rw [e'] at e; cases e
  | some b =>
    rw [e'] at e; cases e
    have q := q (.bl b) H (Same.refl _) (.bl b)
    rcases eq_cases rx ry e' with ⟨h1, h2⟩ | ⟨h1, h2, h3, h4, h5⟩
    · exact .inl ⟨h1, by rw [h2]; exact q⟩
    · exact .inr ⟨_, _, h1, h2, h3, h4, by rw [h5]; exact q⟩
theorem sem_ne : Sem2 X (rNeA X.K) neD := fun {F H x y z v u Q} al rx ry e q => by
  unfold neD at e
  cases e' : eqB x y with
  | none => rw [e'] at e; cases e
  | some b =>
    rw [e'] at e; cases e
    have q := q (.bl (!b)) H (Same.refl _) (.bl _)
    rcases eq_cases rx ry e' with ⟨h1, h2⟩ | ⟨h1, h2, h3, h4, h5⟩
    · exact .inl ⟨h1, by rw [h2]; exact q⟩
    · exact .inr ⟨_, _, h1, h2, h3, h4, by rw [h5]; exact q⟩
/-- order of ints (tuples of ints, texts for <) -/
def ltD : D → D → Option D
  | .int i, .int j => some (.bl (decide (i < j)))
  | _, _ => none
def leD : D → D → Option D
  | .int i, .int j => some (.bl (decide (i ≤ j)))
  | _, _ => none
def gtD : D → D → Option D
  | .int i, .int j => some (.bl (decide (j < i)))
  | _, _ => none
def geD : D → D → Option D
  | .int i, .int j => some (.bl (decide (j ≤ i)))
  | _, _ => none
theorem sem_lt : Sem2 X (rI0 fun i j => .bl (decide (i < j))) ltD := sem_ints (fun e q => by cases e; exact ⟨_, _, rfl, rfl, q _ fun _ _ => .bl _⟩) fun x y z e => by
  unfold ltD at e; split at e
  · exact ⟨_, _, rfl, rfl⟩
  · cases e
theorem sem_le : Sem2 X (rI0 fun i j => .bl (decide (i ≤ j))) leD := sem_ints (fun e q => by cases e; exact ⟨_, _, rfl, rfl, q _ fun _ _ => .bl _⟩) fun x y z e => by
  unfold leD at e; split at e
  · exact ⟨_, _, rfl, rfl⟩
  · cases e
theorem sem_gt : Sem2 X (rI0 fun i j => .bl (decide (j < i))) gtD := sem_ints (fun e q => by cases e; exact ⟨_, _, rfl, rfl, q _ fun _ _ => .bl _⟩) fun x y z e => by
  unfold gtD at e; split at e
  · exact ⟨_, _, rfl, rfl⟩
  · cases e
theorem sem_ge : Sem2 X (rI0 fun i j => .bl (decide (j ≤ i))) geD := sem_ints (fun e q => by cases e; exact ⟨_, _, rfl, rfl, q _ fun _ _ => .bl _⟩) fun x y z e => by
  unfold geD at e; split at e
  · exact ⟨_, _, rfl, rfl⟩
  · cases e
/-- is None -/
def isND : D → D → Option D
  | .non, .non => some (.bl true)
  | _, .non => some (.bl false)
  | _, _ => none
def notND : D → D → Option D
  | .non, .non => some (.bl false)
  | _, .non => some (.bl true)
  | _, _ => none
theorem sem_isN : Sem2 X (fun x y H Q => y = .non ∧ Q (.bl (decide (x = .non))) H) isND := fun {F H x y z v u Q} al rx ry e q => by
  cases y <;> first | (cases x <;> cases e; done) | skip
  have n := rx.nn
  refine ⟨ry.v_non, ?_⟩
  rw [n]
  cases x <;> cases e <;> exact q _ _ (Same.refl _) (.bl _)
theorem sem_notN : Sem2 X (fun x y H Q => y = .non ∧ Q (.bl (!decide (x = .non))) H) notND := fun {F H x y z v u Q} al rx ry e q => by
  cases y <;> first | (cases x <;> cases e; done) | skip
  have n := rx.nn
  refine ⟨ry.v_non, ?_⟩
  rw [n]
  cases x <;> cases e <;> exact q _ _ (Same.refl _) (.bl _)
/-- in: flat things in a list or tuple; any data in a list -/
def flatD : D → Bool
  | .tup _ => false
  | .lst _ => false
  | .kls _ => false
  | .dik _ _ => false
  | .dit _ _ => false
  | _ => true
def vOf : D → V
  | .non => .non
  | .bl b => .bl b
  | .int i => .int i
  | .str x => .str x
  | _ => .non
def inB (x : D) (ys : List D) : Bool := inV (vOf x) (ys.map vOf)
def inFlat (x : D) : D → Option Bool
  | .tup ys => if (flatD x && ys.all flatD) = true then some (inB x ys) else none
  | .lst ys => if (flatD x && ys.all flatD) = true then some (inB x ys) else if (shp x && shp (.lst ys)) = true then some ((toPys ys).any fun z => PyData.eqv z (toPy x)) else none
  | _ => none
def inD (x y : D) : Option D := (inFlat x y).map .bl
def notInD (x y : D) : Option D := (inFlat x y).map fun b => .bl (!b)
theorem flat_of {K : PySem.W.Frag} {F : Addr → Prop} {H : Hp} {x : D} {v : V} (r : Bor K F H x v) (h : flatD x = true) : v = vOf x ∧ flatV v = true := by
  cases x with
  | non => rw [r.v_non]; exact ⟨rfl, rfl⟩
  | bl b => rw [r.v_bl]; exact ⟨rfl, rfl⟩
  | int b => rw [r.v_int]; exact ⟨rfl, rfl⟩
  | str b => rw [r.v_str]; exact ⟨rfl, rfl⟩
  | tup b => cases h
  | lst b => cases h
  | kls b => cases h
  | dik k b => cases h
  | dit k b => cases h
theorem flats_of {K : PySem.W.Frag} {F : Addr → Prop} {H : Hp} : ∀ {xs : List D} {vs : List V}, Reps K F H xs vs → xs.all flatD = true → vs = xs.map vOf ∧ vs.all flatV = true
  | _, _, .nil, _ => ⟨rfl, rfl⟩
  | _, _, .cons h r, e => by
    rw [List.all_cons, Bool.and_eq_true] at e
    obtain ⟨e1, f1⟩ := flat_of h.bor e.1
    obtain ⟨e2, f2⟩ := flats_of r e.2
    exact ⟨by rw [List.map_cons, ← e1, ← e2], by rw [List.all_cons, f1, f2]; rfl⟩
theorem in_cases {x y : D} {b : Bool} {v u : V} {K : PySem.W.Frag} {F : Addr → Prop} {H : Hp} (rx : Bor K F H x v) (ry : Bor K F H y u) (e : inFlat x y = some b) :
    (∃ p xs, u = .ref p ∧ (SqL K H p xs ∨ SqT K H p xs) ∧ flatV v = true ∧ xs.all flatV = true ∧ inV v xs = b) ∨
    (∃ d ds, Dp K H v d ∧ Dp K H u (.list ds) ∧ SeqAt.shaped d = true ∧ SeqAt.shaped (.list ds) = true ∧ (ds.any fun z => PyData.eqv z d) = b) := by
  unfold inFlat at e
  split at e
  · split at e
    · rename_i hs; cases e
      rw [Bool.and_eq_true] at hs
      obtain ⟨a, vs, rfl, ha, ra⟩ := ry.v_tup
      obtain ⟨e1, f1⟩ := flat_of rx hs.1
      obtain ⟨e2, f2⟩ := flats_of ra hs.2
      exact .inl ⟨a, vs, rfl, .inr ha, f1, f2, by rw [e1, e2]; rfl⟩
    · cases e
  · split at e
    · rename_i hs; cases e
      rw [Bool.and_eq_true] at hs
      obtain ⟨a, vs, rfl, ha, ra⟩ := ry.v_lst
      obtain ⟨e1, f1⟩ := flat_of rx hs.1
      obtain ⟨e2, f2⟩ := flats_of ra hs.2
      exact .inl ⟨a, vs, rfl, .inl ha, f1, f2, by rw [e1, e2]; rfl⟩
    · split at e
      · rename_i hs; cases e
        rw [Bool.and_eq_true] at hs
        exact .inr ⟨_, _, rx.dp hs.1, ry.dp hs.2, hs.1, hs.2, rfl⟩
      · cases e
  · cases e
abbrev rInA (K : PySem.W.Frag) : R2 := fun x y H Q => rIn K false x y H Q ∨ rInD K x y H Q
abbrev rNotInA (K : PySem.W.Frag) : R2 := fun x y H Q => rIn K true x y H Q ∨ rNotInD K x y H Q
theorem op_inA (hu : X.A.units + 65 < cLine) : OpR X (compareOp .In) (rInA X.K) := op_in_seq.or (op_inD hu)
theorem op_notInA (hu : X.A.units + 65 < cLine) : OpR X (compareOp .NotIn) (rNotInA X.K) := op_notIn_seq.or (op_notInD hu)
theorem sem_in : Sem2 X (rInA X.K) inD := fun {F H x y z v u Q} al rx ry e q => by
  unfold inD at e
  cases e' : inFlat x y with
  | none => rw [e'] at e; cases e
  | some b =>
    rw [e'] at e; cases e
    have q := q (.bl b) H (Same.refl _) (.bl b)
    rcases in_cases rx ry e' with ⟨p, xs, h1, h2, h3, h4, h5⟩ | ⟨d, ds, h1, h2, h3, h4, h5⟩
    · exact .inl ⟨p, xs, h1, h2, h3, h4, by rw [h5]; exact q⟩
    · exact .inr ⟨d, ds, h1, h2, h3, h4, by rw [h5]; exact q⟩
theorem sem_notIn : Sem2 X (rNotInA X.K) notInD := fun {F H x y z v u Q} al rx ry e q => by
  unfold notInD at e
  cases e' : inFlat x y with
  | none => rw [e'] at e; cases e
  | some b =>
    rw [e'] at e; cases e
    have q := q (.bl (!b)) H (Same.refl _) (.bl _)
    rcases in_cases rx ry e' with ⟨p, xs, h1, h2, h3, h4, h5⟩ | ⟨d, ds, h1, h2, h3, h4, h5⟩
    · exact .inl ⟨p, xs, h1, h2, h3, h4, by rw [h5]; exact q⟩
    · exact .inr ⟨d, ds, h1, h2, h3, h4, by rw [h5]; exact q⟩

/-! ### items, slices -/
def idxD : D → D → Option D
  | .tup xs, .int i => atI xs i
  | .lst xs, .int i => atI xs i
  | .kls xs, .int i => atI xs i
  | .str z, .int i => if z.length ≤ sizeLine then (atI z.cps.toList i).map fun c => .str ⟨#[c]⟩ else none
  | _, _ => none
theorem reps_at {K : PySem.W.Frag} {F : Addr → Prop} {H : Hp} {xs : List D} {vs : List V} {i : Int} {x : D} (r : Reps K F H xs vs) (h : atI xs i = some x) : ∃ v, atI vs i = some v ∧ Rep K F H x v := by
  unfold atI at h ⊢
  rw [← r.length]
  cases e : ixN xs.length i with
  | none => rw [e] at h; cases h
  | some j =>
    rw [e] at h
    obtain ⟨v, h1, h2⟩ := r.get (show xs[j]? = some x from h)
    exact ⟨v, h1, h2⟩
theorem sem_idx : Sem2 X (rIx X.K) idxD := fun {F H x y z v u Q} al rx ry e q => by
  unfold idxD at e
  split at e
  · obtain ⟨a, vs, rfl, ha, ra⟩ := rx.v_tup
    obtain ⟨w, h1, h2⟩ := reps_at ra e
    exact .inr (.inl ⟨a, vs, _, w, rfl, ry.v_int, ha, h1, q _ _ (Same.refl _) h2⟩)
  · obtain ⟨a, vs, rfl, ha, ra⟩ := rx.v_lst
    obtain ⟨w, h1, h2⟩ := reps_at ra e
    exact .inl ⟨a, vs, _, w, rfl, ry.v_int, ha, h1, q _ _ (Same.refl _) h2⟩
  · obtain ⟨a, vs, rfl, ha, ra⟩ := rx.v_kls
    obtain ⟨w, h1, h2⟩ := reps_at ra e
    exact .inl ⟨a, vs, _, w, rfl, ry.v_int, ha, h1, q _ _ (Same.refl _) h2⟩
  · split at e
    · rename_i z' i hz
      cases e' : atI z'.cps.toList i with
      | none => rw [e'] at e; cases e
      | some c =>
        rw [e'] at e; cases e
        exact .inr (.inr ⟨_, _, c, rx.v_str, ry.v_int, hz, e', q _ _ (Same.refl _) (.str _)⟩)
    · cases e
  · cases e
theorem se_ix {W : WX} {p q : Opd} {a b : Expr} {pos : Pos} (ha : SO X W p a) (hb : SO X W q b) (hs : PlainIx b) : SE X W (mop2 idxD p q) (.Subscript a b pos) := (pe_ix ix_seq ha hb hs).imp (op2_of sem_idx)
end
end Z

namespace Z
open PySem L2

section
variable {K : PySem.W.Frag} {F0 : Addr → Prop} {ρ : En} {σ : St} {H H' : Hp} {p : Addr}
/-- a new object is kept from, too -/
theorem Rl.more (R : Rl K F0 ρ σ H) (k : Same H H') (hp : H p = none) (hp' : ∃ o, H' p = some o) : Rl K (plus F0 p) ρ σ H' := by
  have m : ∀ a, Fav (plus F0 p) ρ σ a → Fav F0 ρ σ a ∨ H a = none := fun a z => by
    rcases z with (z | z) | z
    · exact .inl (.inl z)
    · exact .inr (by rw [z]; exact hp)
    · exact .inl (.inr z)
  have m2 : ∀ a o, H a = some o → ¬ Fav F0 ρ σ a → H' a = some o := fun a o e _ => k a o e
  refine ⟨R.len, fun i x e => ?_, fun i b ds e => ?_, R.inj, fun a h => ?_, R.obj⟩
  · obtain ⟨v, e1, r⟩ := R.dat i x e
    exact ⟨v, e1, r.mono m m2⟩
  · obtain ⟨a, e1, r, n⟩ := R.own i b ds e
    refine ⟨a, e1, r.mono m m2 fun c hc => ?_, fun c hc z => z.elim (n c hc) fun q => ?_⟩
    · obtain ⟨o, ho⟩ := r.alc hc
      rw [ho, k _ _ ho]
    · rw [e1] at hc
      obtain ⟨o, ho⟩ := r.alc hc
      rw [q, hp] at ho; cases ho
  · rcases h with h | h
    · obtain ⟨o, e⟩ := R.alc a h
      exact ⟨o, k _ _ e⟩
    · rw [h]; exact hp'
theorem Reps.more {ds : List D} {vs : List V} (k : Same H H') (hp : H p = none) (r : Reps K (Fav F0 ρ σ) H ds vs) : Reps K (Fav (plus F0 p) ρ σ) H' ds vs :=
  r.mono (fun a z => by
    rcases z with (z | z) | z
    · exact .inl (.inl z)
    · exact .inr (by rw [z]; exact hp)
    · exact .inl (.inr z)) fun a o e _ => k a o e
theorem Rep.more {d : D} {v : V} (k : Same H H') (hp : H p = none) (r : Rep K (Fav F0 ρ σ) H d v) : Rep K (Fav (plus F0 p) ρ σ) H' d v :=
  r.mono (fun a z => by
    rcases z with (z | z) | z
    · exact .inl (.inl z)
    · exact .inr (by rw [z]; exact hp)
    · exact .inl (.inr z)) fun a o e _ => k a o e
end

section
variable {X : Cx} {W : WX} {pos : Pos}
/-! ### lists of arguments, displays -/
def mcons (f : M D) (g : M (List D)) : M (List D) := mbind f fun x => mbind g fun xs => mpure (x :: xs)
theorem sa_nil : SA X W (mpure []) [] := pa_nil.imp fun σ H Q ⟨F0, ρ, R, o⟩ => o [] H R (Stp.refl _ _ _) .nil
theorem sa_cons {f : M D} {g : M (List D)} {e : Expr} {es : List Expr} (ha : SE X W f e) (hr : SA X W g es) (hs : starEach (e :: es) X.env = (false, eval e X.env) :: starEach es X.env := by rfl) : SA X W (mcons f g) (e :: es) :=
  (pa_cons ha hr hs).imp fun σ H Q ⟨F0, ρ, R, o⟩ => seqE R o fun x ρ1 v H1 R1 S1 r1 o1 => seqA R1 o1 fun xs ρ2 vs H2 R2 S2 r2 o2 => o2 _ H2 R2 (S1.trans S2) (.cons (S2.rep r1) r2)
def mtup (f : M (List D)) : M D := mbind f fun xs => if xs.length ≤ 1000 then mpure (.tup xs) else mbad
def mlst (f : M (List D)) : M (List D) := mbind f fun xs => if xs.length ≤ 1000 then mpure xs else mbad
theorem k1000 {n : Nat} (h : n ≤ 1000) : n ≤ sizeLine := Nat.le_of_lt (small1000 h)
theorem se_tup {f : M (List D)} {es : List Expr} {x1} (h : SA X W f es) : SE X W (mtup f) (.Tuple es x1 pos) := (pe_tup h).imp fun σ H Q ⟨F0, ρ, R, o⟩ =>
  seqA R o fun xs ρ1 vs H1 R1 S1 r1 o1 => by
    split at o1
    · rename_i hz
      refine ⟨by rw [← r1.length]; exact k1000 hz, fun p hp => ?_⟩
      exact o1 _ _ (R1.same (Same.new hp _)) (S1.trans (Stp.same (Same.new hp _))) (rep_newT (fun a => R1.fav_alc a) hp r1)
    · exact o1.elim
theorem sf_lst {f : M (List D)} {es : List Expr} (h : SA X W f es) : SF X W (mlst f) (.List es pos) := (pe_lst h).imp fun σ H Q ⟨F0, ρ, R, o⟩ =>
  seqA R o fun xs ρ1 vs H1 R1 S1 r1 o1 => by
    split at o1
    · rename_i hz
      refine ⟨by rw [← r1.length]; exact k1000 hz, fun p hp => ?_⟩
      have k := Same.new hp (.lst vs)
      exact o1 p vs _ (R1.more k hp ⟨_, upd_same⟩) (S1.trans (Stp.same k)) (S1.trk p hp) upd_same (r1.more k hp)
    · exact o1.elim

/-! ### built-ins of one or two operands -/
section
variable {x : Str} {id T : String} {r : List V → Hp → VK → Prop} {p q : Opd} {e e2 : Expr} {pp : Pos}
theorem se_callB1 {sem : D → Option D} (hc : CallR X (.builtin id) r) (h : Sem1 X (fun v H Q => r [v] H Q) sem) (hg : Gl X x) (hm : X.mg x = none) (hv : bootBuiltins x = some (.builtin id)) (ha : SO X W p e) (hn : x ≠ "__name__" := by decide) (hdb : (x == ("__debug__" : Str)) = false := by decide)
    (he : starEach (e :: []) X.env = (false, eval e X.env) :: starEach [] X.env := by rfl) (hpl : (backTo pos (starEach [] X.env)).any (·.1) = false := by rfl) : SE X W (mop1 sem p) (.Call (.Name x pp) [e] [] pos) :=
  (pe_callB hc hg hm hv (pa_cons ha pa_nil he) hn hdb he hpl).imp (op1_of h)
theorem se_callT1 {sem : D → Option D} (hc : CallR X (.type T) r) (h : Sem1 X (fun v H Q => r [v] H Q) sem) (hg : Gl X x) (hm : X.mg x = none) (hv : bootBuiltins x = some (.type T)) (ha : SO X W p e) (hn : x ≠ "__name__" := by decide) (hdb : (x == ("__debug__" : Str)) = false := by decide)
    (he : starEach (e :: []) X.env = (false, eval e X.env) :: starEach [] X.env := by rfl) (hpl : (backTo pos (starEach [] X.env)).any (·.1) = false := by rfl) : SE X W (mop1 sem p) (.Call (.Name x pp) [e] [] pos) :=
  (pe_callTy hc hg hm hv (pa_cons ha pa_nil he) hn hdb he hpl).imp (op1_of h)
theorem se_callB2 {sem : D → D → Option D} (hc : CallR X (.builtin id) r) (h : Sem2 X (fun v u H Q => r [v, u] H Q) sem) (hg : Gl X x) (hm : X.mg x = none) (hv : bootBuiltins x = some (.builtin id)) (ha : SO X W p e) (hb : SO X W q e2) (hn : x ≠ "__name__" := by decide) (hdb : (x == ("__debug__" : Str)) = false := by decide)
    (he : starEach (e :: [e2]) X.env = (false, eval e X.env) :: starEach [e2] X.env := by rfl) (he2 : starEach (e2 :: []) X.env = (false, eval e2 X.env) :: starEach [] X.env := by rfl) (hpl : (backTo pos (starEach [e2] X.env)).any (·.1) = false := by rfl) : SE X W (mop2 sem p q) (.Call (.Name x pp) [e, e2] [] pos) :=
  (pe_callB hc hg hm hv (pa_cons ha (pa_cons hb pa_nil he2) he) hn hdb he hpl).imp (op2_of h)
/-- .. whose answer is a new list -/
def Sem1F (X : Cx) (r : V → Hp → VK → Prop) (sem : D → Option (List D)) : Prop := ∀ {F : Addr → Prop} {H : Hp} {x : D} {ds : List D} {v : V} {Q : VK}, (∀ a, F a → ∃ o, H a = some o) → Bor X.K F H x v → sem x = some ds →
  (∀ p vs, H p = none → Reps X.K F H ds vs → Q (.ref p) (upd H p (.lst vs))) → r v H Q
def mop1F (sem : D → Option (List D)) : Opd → M (List D)
  | .val f => mbind f fun x => mopt (sem x)
  | .slot i => mbind (mget i) fun x => mopt (sem x)
theorem op1F_of {r : V → Hp → VK → Prop} {sem : D → Option (List D)} (h : Sem1F X r sem) {p : Opd} : ∀ σ H Q, tF X W (mop1F sem p) σ H Q → tO X W p σ H (fun v H1 => r v H1 Q) := fun σ H Q ⟨F0, ρ, R, o⟩ =>
  opd1 (k := fun x => mopt (sem x)) (good := gF X F0 ρ σ H Q) R (by cases p <;> exact o) fun x ρ2 v H2 R2 S2 b1 o2 => by
    obtain ⟨z, e, q⟩ := Out.opt o2
    refine h R2.fav_alc b1 e fun p vs hp r3 => ?_
    have k := Same.new hp (.lst vs)
    exact q p vs _ (R2.more k hp ⟨_, upd_same⟩) (S2.trans (Stp.same k)) (S2.trk p hp) upd_same (r3.more k hp)
theorem sf_callB1 {sem : D → Option (List D)} (hc : CallR X (.builtin id) r) (h : Sem1F X (fun v H Q => r [v] H Q) sem) (hg : Gl X x) (hm : X.mg x = none) (hv : bootBuiltins x = some (.builtin id)) (ha : SO X W p e) (hn : x ≠ "__name__" := by decide) (hdb : (x == ("__debug__" : Str)) = false := by decide)
    (he : starEach (e :: []) X.env = (false, eval e X.env) :: starEach [] X.env := by rfl) (hpl : (backTo pos (starEach [] X.env)).any (·.1) = false := by rfl) : SF X W (mop1F sem p) (.Call (.Name x pp) [e] [] pos) :=
  (pe_callB hc hg hm hv (pa_cons ha pa_nil he) hn hdb he hpl).imp (op1F_of h)
theorem sf_callT1 {sem : D → Option (List D)} (hc : CallR X (.type T) r) (h : Sem1F X (fun v H Q => r [v] H Q) sem) (hg : Gl X x) (hm : X.mg x = none) (hv : bootBuiltins x = some (.type T)) (ha : SO X W p e) (hn : x ≠ "__name__" := by decide) (hdb : (x == ("__debug__" : Str)) = false := by decide)
    (he : starEach (e :: []) X.env = (false, eval e X.env) :: starEach [] X.env := by rfl) (hpl : (backTo pos (starEach [] X.env)).any (·.1) = false := by rfl) : SF X W (mop1F sem p) (.Call (.Name x pp) [e] [] pos) :=
  (pe_callTy hc hg hm hv (pa_cons ha pa_nil he) hn hdb he hpl).imp (op1F_of h)
end

/-! their answers -/
def lenD : D → Option D
  | .str z => if z.length ≤ sizeLine then some (.int z.length) else none
  | .tup xs => some (.int xs.length)
  | .lst xs => some (.int xs.length)
  | .kls xs => some (.int xs.length)
  | _ => none
theorem sem_len : Sem1 X (fun v H Q => ∃ x n, [v] = [x] ∧ LenV X.K x H n ∧ Q (.int n) H) lenD := fun {F H x z v Q} al r e q => by
  unfold lenD at e
  split at e
  · split at e
    · rename_i hz; cases e
      rw [r.v_str]
      exact ⟨_, _, rfl, ⟨hz, rfl⟩, q _ _ (Same.refl _) (.int _)⟩
    · cases e
  · cases e
    obtain ⟨a, vs, rfl, h, r⟩ := r.v_tup
    exact ⟨_, _, rfl, .inr ⟨vs, h, rfl⟩, by rw [← r.length]; exact q _ _ (Same.refl _) (.int _)⟩
  · cases e
    obtain ⟨a, vs, rfl, h, r⟩ := r.v_lst
    exact ⟨_, _, rfl, .inl ⟨vs, h, rfl⟩, by rw [← r.length]; exact q _ _ (Same.refl _) (.int _)⟩
  · cases e
    obtain ⟨a, vs, rfl, h, r⟩ := r.v_kls
    exact ⟨_, _, rfl, .inl ⟨vs, h, rfl⟩, by rw [← r.length]; exact q _ _ (Same.refl _) (.int _)⟩
  · cases e
def intD : D → Option D
  | .int i => some (.int i)
  | .bl b => some (.int (if b then 1 else 0))
  | _ => none
theorem sem_int : Sem1 X (fun v H Q => (∃ i, [v] = [V.int i] ∧ Q (.int i) H) ∨ ∃ k, [v] = [V.bl k] ∧ Q (.int (if k then 1 else 0)) H) intD := fun {F H x z v Q} al r e q => by
  unfold intD at e
  split at e
  · cases e; rw [r.v_int]; exact .inl ⟨_, rfl, q _ _ (Same.refl _) (.int _)⟩
  · cases e; rw [r.v_bl]; exact .inr ⟨_, rfl, q _ _ (Same.refl _) (.int _)⟩
  · cases e
def strD : D → Option D
  | .int i => if i.natAbs.log2 < 1920 then some (.str (toString i)) else none
  | _ => none
theorem sem_str : Sem1 X (fun v H Q => ∃ i : Int, [v] = [V.int i] ∧ i.natAbs.log2 < 1920 ∧ Q (.str (toString i)) H) strD := fun {F H x z v Q} al r e q => by
  unfold strD at e
  split at e
  · split at e
    · rename_i hz; cases e; rw [r.v_int]; exact ⟨_, rfl, hz, q _ _ (Same.refl _) (.str _)⟩
    · cases e
  · cases e
def absD : D → Option D
  | .int i => some (.int (if i < 0 then -i else i))
  | _ => none
theorem sem_abs : Sem1 X (fun v H Q => ∃ i : Int, [v] = [V.int i] ∧ Q (.int (if i < 0 then -i else i)) H) absD := fun {F H x z v Q} al r e q => by
  unfold absD at e
  split at e
  · cases e; rw [r.v_int]; exact ⟨_, rfl, q _ _ (Same.refl _) (.int _)⟩
  · cases e
def max2D : D → D → Option D
  | .int i, .int j => some (.int (if j > i then j else i))
  | _, _ => none
def min2D : D → D → Option D
  | .int i, .int j => some (.int (if j < i then j else i))
  | _, _ => none
theorem sem_max2 : Sem2 X (fun v u H Q => ∃ i j : Int, [v, u] = [V.int i, V.int j] ∧ Q (.int (if j > i then j else i)) H) max2D := fun {F H x y z v u Q} al rx ry e q => by
  unfold max2D at e
  split at e
  · cases e; rw [rx.v_int, ry.v_int]; exact ⟨_, _, rfl, q _ _ (Same.refl _) (.int _)⟩
  · cases e
theorem sem_min2 : Sem2 X (fun v u H Q => ∃ i j : Int, [v, u] = [V.int i, V.int j] ∧ Q (.int (if j < i then j else i)) H) min2D := fun {F H x y z v u Q} al rx ry e q => by
  unfold min2D at e
  split at e
  · cases e; rw [rx.v_int, ry.v_int]; exact ⟨_, _, rfl, q _ _ (Same.refl _) (.int _)⟩
  · cases e
def tupleD : D → Option D
  | .lst xs => some (.tup xs)
  | .kls xs => some (.tup xs)
  | .tup xs => some (.tup xs)
  | _ => none
theorem sem_tuple : Sem1 X (fun v H Q => ∃ p ys, [v] = [V.ref p] ∧ ((SqL X.K H p ys ∧ ∀ l, H l = none → Q (.ref l) (upd H l (.tup ys))) ∨ (SqT X.K H p ys ∧ Q (.ref p) H))) tupleD := fun {F H x z v Q} al r e q => by
  unfold tupleD at e
  split at e
  · cases e
    obtain ⟨a, vs, rfl, h, r⟩ := r.v_lst
    exact ⟨a, vs, rfl, .inl ⟨h, fun l hl => q _ _ (Same.new hl _) (rep_newT al hl r)⟩⟩
  · cases e
    obtain ⟨a, vs, rfl, h, r⟩ := r.v_kls
    exact ⟨a, vs, rfl, .inl ⟨h, fun l hl => q _ _ (Same.new hl _) (rep_newT al hl r)⟩⟩
  · cases e
    have r' : Rep X.K F H (.tup _) v := r
    obtain ⟨a, vs, rfl, h, _⟩ := r.v_tup
    exact ⟨a, vs, rfl, .inr ⟨h, q _ _ (Same.refl _) r'⟩⟩
  · cases e
def listD : D → Option (List D)
  | .lst xs => some xs
  | .kls xs => some xs
  | .tup xs => some xs
  | _ => none
theorem sem_list : Sem1F X (fun v H Q => ∃ p ys, [v] = [V.ref p] ∧ (SqL X.K H p ys ∨ SqT X.K H p ys) ∧ ∀ l, H l = none → Q (.ref l) (upd H l (.lst ys))) listD := fun {F H x ds v Q} al r e q => by
  unfold listD at e
  split at e
  · cases e
    obtain ⟨a, vs, rfl, h, r⟩ := r.v_lst
    exact ⟨a, vs, rfl, .inl h, fun l hl => q _ _ hl r⟩
  · cases e
    obtain ⟨a, vs, rfl, h, r⟩ := r.v_kls
    exact ⟨a, vs, rfl, .inl h, fun l hl => q _ _ hl r⟩
  · cases e
    obtain ⟨a, vs, rfl, h, r⟩ := r.v_tup
    exact ⟨a, vs, rfl, .inr h, fun l hl => q _ _ hl r⟩
  · cases e
/-- whole numbers, truths among data -/
def asInts : List D → Option (List Int)
  | [] => some []
  | .int i :: r => (asInts r).map (i :: ·)
  | _ => none
def asBls : List D → Option (List Bool)
  | [] => some []
  | .bl i :: r => (asBls r).map (i :: ·)
  | _ => none
theorem asInts_of : ∀ {ds : List D} {ns : List Int}, asInts ds = some ns → ds = ns.map D.int
  | [], _, h => by cases h; rfl
  | .int i :: r, ns, h => by
    have h : (asInts r).map (i :: ·) = some ns := h
    cases e : asInts r with
    | none => rw [e] at h; cases h
    | some ms => rw [e] at h; cases h; rw [asInts_of e]; rfl
  | .non :: _, _, h => by cases h
  | .bl _ :: _, _, h => by cases h
  | .str _ :: _, _, h => by cases h
  | .tup _ :: _, _, h => by cases h
  | .lst _ :: _, _, h => by cases h
  | .kls _ :: _, _, h => by cases h
theorem asInts_map : ∀ ns : List Int, asInts (ns.map D.int) = some ns
  | [] => rfl
  | i :: r => by show (asInts (r.map D.int)).map (i :: ·) = _; rw [asInts_map r]; rfl
theorem asBls_of : ∀ {ds : List D} {ns : List Bool}, asBls ds = some ns → ds = ns.map D.bl
  | [], _, h => by cases h; rfl
  | .bl i :: r, ns, h => by
    have h : (asBls r).map (i :: ·) = some ns := h
    cases e : asBls r with
    | none => rw [e] at h; cases h
    | some ms => rw [e] at h; cases h; rw [asBls_of e]; rfl
  | .non :: _, _, h => by cases h
  | .int _ :: _, _, h => by cases h
  | .str _ :: _, _, h => by cases h
  | .tup _ :: _, _, h => by cases h
  | .lst _ :: _, _, h => by cases h
  | .kls _ :: _, _, h => by cases h
theorem asBls_map : ∀ ns : List Bool, asBls (ns.map D.bl) = some ns
  | [] => rfl
  | i :: r => by show (asBls (r.map D.bl)).map (i :: ·) = _; rw [asBls_map r]; rfl
theorem reps_ints {K : PySem.W.Frag} {F : Addr → Prop} {H : Hp} : ∀ {ns : List Int} {vs : List V}, Reps K F H (ns.map D.int) vs → vs = ns.map V.int
  | [], _, .nil => rfl
  | _ :: _, _, .cons h r => by rw [h.v_int, reps_ints r]; rfl
theorem reps_bls {K : PySem.W.Frag} {F : Addr → Prop} {H : Hp} : ∀ {ns : List Bool} {vs : List V}, Reps K F H (ns.map D.bl) vs → vs = ns.map V.bl
  | [], _, .nil => rfl
  | _ :: _, _, .cons h r => by rw [h.v_bl, reps_bls r]; rfl
def sumD : D → Option D
  | .lst xs => (asInts xs).map fun ns => .int ns.sum
  | _ => none
theorem sem_sum : Sem1 X (fun v H Q => rSum X.K [v] H Q) sumD := fun {F H x z v Q} al r e q => by
  unfold sumD at e
  split at e
  · rename_i xs
    cases e1 : asInts xs with
    | none => rw [e1] at e; cases e
    | some ns =>
      rw [e1] at e; cases e
      obtain ⟨a, vs, rfl, h, r⟩ := r.v_lst
      rw [asInts_of e1] at r
      rw [reps_ints r] at h
      exact ⟨a, ns, rfl, h, q _ _ (Same.refl _) (.int _)⟩
  · cases e
def maxI : Int → List Int → Int
  | m, [] => m
  | m, x :: r => maxI (if x > m then x else m) r
def minI : Int → List Int → Int
  | m, [] => m
  | m, x :: r => minI (if x < m then x else m) r
theorem maxI_spec : ∀ (r : List Int) (m : Int), (maxI m r = m ∨ maxI m r ∈ r) ∧ m ≤ maxI m r ∧ ∀ y ∈ r, y ≤ maxI m r
  | [], m => ⟨.inl rfl, Int.le_refl _, fun _ h => by cases h⟩
  | x :: r, m => by
    obtain ⟨h1, h2, h3⟩ := maxI_spec r (if x > m then x else m)
    have e : maxI m (x :: r) = maxI (if x > m then x else m) r := rfl
    rw [e]
    refine ⟨?_, ?_, fun y hy => ?_⟩
    · rcases h1 with h1 | h1
      · rw [h1]; split
        · exact .inr (by simp)
        · exact .inl rfl
      · exact .inr (List.mem_cons_of_mem _ h1)
    · revert h2; split <;> omega
    · rcases List.mem_cons.mp hy with rfl | hy
      · revert h2; split <;> omega
      · exact h3 y hy
theorem minI_spec : ∀ (r : List Int) (m : Int), (minI m r = m ∨ minI m r ∈ r) ∧ minI m r ≤ m ∧ ∀ y ∈ r, minI m r ≤ y
  | [], m => ⟨.inl rfl, Int.le_refl _, fun _ h => by cases h⟩
  | x :: r, m => by
    obtain ⟨h1, h2, h3⟩ := minI_spec r (if x < m then x else m)
    have e : minI m (x :: r) = minI (if x < m then x else m) r := rfl
    rw [e]
    refine ⟨?_, ?_, fun y hy => ?_⟩
    · rcases h1 with h1 | h1
      · rw [h1]; split
        · exact .inr (by simp)
        · exact .inl rfl
      · exact .inr (List.mem_cons_of_mem _ h1)
    · revert h2; split <;> omega
    · rcases List.mem_cons.mp hy with rfl | hy
      · revert h2; split <;> omega
      · exact h3 y hy
def maxD : D → Option D
  | .lst xs => match asInts xs with
    | some (m :: r) => some (.int (maxI m r))
    | _ => none
  | _ => none
def minD : D → Option D
  | .lst xs => match asInts xs with
    | some (m :: r) => some (.int (minI m r))
    | _ => none
  | _ => none
theorem sem_max : Sem1 X (fun v H Q => rMax X.K [v] H Q) maxD := fun {F H x z v Q} al r e q => by
  unfold maxD at e
  split at e
  · split at e
    · rename_i xs _ m r' e1
      cases e
      obtain ⟨a, vs, rfl, h, r⟩ := r.v_lst
      rw [asInts_of e1] at r
      rw [reps_ints r] at h
      refine ⟨a, _, rfl, h, Nat.succ_pos _, fun k hk hle => ?_⟩
      obtain ⟨h1, h2, h3⟩ := maxI_spec r' m
      have e2 : k = maxI m r' := by
        have a1 : k ≤ maxI m r' := by
          rcases List.mem_cons.mp hk with rfl | hk
          · exact h2
          · exact h3 k hk
        have a2 : maxI m r' ≤ k := by
          rcases h1 with h1 | h1
          · rw [h1]; exact hle m (by simp)
          · exact hle _ (List.mem_cons_of_mem _ h1)
        omega
      rw [e2]
      exact q _ _ (Same.refl _) (.int _)
    · cases e
  · cases e
theorem sem_min : Sem1 X (fun v H Q => rMin X.K [v] H Q) minD := fun {F H x z v Q} al r e q => by
  unfold minD at e
  split at e
  · split at e
    · rename_i xs _ m r' e1
      cases e
      obtain ⟨a, vs, rfl, h, r⟩ := r.v_lst
      rw [asInts_of e1] at r
      rw [reps_ints r] at h
      refine ⟨a, _, rfl, h, Nat.succ_pos _, fun k hk hle => ?_⟩
      obtain ⟨h1, h2, h3⟩ := minI_spec r' m
      have e2 : k = minI m r' := by
        have a1 : minI m r' ≤ k := by
          rcases List.mem_cons.mp hk with rfl | hk
          · exact h2
          · exact h3 k hk
        have a2 : k ≤ minI m r' := by
          rcases h1 with h1 | h1
          · rw [h1]; exact hle m (by simp)
          · exact hle _ (List.mem_cons_of_mem _ h1)
        omega
      rw [e2]
      exact q _ _ (Same.refl _) (.int _)
    · cases e
  · cases e
def allD : D → Option D
  | .lst xs => (asBls xs).map fun bs => .bl (bs.all id)
  | _ => none
def anyD : D → Option D
  | .lst xs => (asBls xs).map fun bs => .bl (bs.any id)
  | _ => none
theorem sem_all : Sem1 X (fun v H Q => rAll X.K [v] H Q) allD := fun {F H x z v Q} al r e q => by
  unfold allD at e
  split at e
  · rename_i xs
    cases e1 : asBls xs with
    | none => rw [e1] at e; cases e
    | some ns =>
      rw [e1] at e; cases e
      obtain ⟨a, vs, rfl, h, r⟩ := r.v_lst
      rw [asBls_of e1] at r
      rw [reps_bls r] at h
      exact ⟨a, ns, rfl, h, q _ _ (Same.refl _) (.bl _)⟩
  · cases e
theorem sem_any : Sem1 X (fun v H Q => rAny X.K [v] H Q) anyD := fun {F H x z v Q} al r e q => by
  unfold anyD at e
  split at e
  · rename_i xs
    cases e1 : asBls xs with
    | none => rw [e1] at e; cases e
    | some ns =>
      rw [e1] at e; cases e
      obtain ⟨a, vs, rfl, h, r⟩ := r.v_lst
      rw [asBls_of e1] at r
      rw [reps_bls r] at h
      exact ⟨a, ns, rfl, h, q _ _ (Same.refl _) (.bl _)⟩
  · cases e
/-- sorted: whole numbers -/
def sortI (ns : List Int) : List Int := ns.mergeSort fun a b => decide (a ≤ b)
theorem sortI_perm (ns : List Int) : (sortI ns).Perm ns := List.mergeSort_perm _ _
theorem sortI_pw (ns : List Int) : (sortI ns).Pairwise (· ≤ ·) := by
  have h := List.pairwise_mergeSort (le := fun a b : Int => decide (a ≤ b)) (fun a b c h1 h2 => by simp at *; omega) (fun a b => by simp; omega) ns
  exact h.imp fun {a b} h => by simpa using h
theorem sorted_eq {as bs : List Int} (p : as.Perm bs) (h1 : as.Pairwise (· ≤ ·)) (h2 : bs.Pairwise (· ≤ ·)) : as = bs :=
  p.eq_of_pairwise (le := (· ≤ ·)) (fun a b _ _ h1 h2 => by omega) h1 h2
def sortedD : D → Option (List D)
  | .lst xs => (asInts xs).map fun ns => (sortI ns).map D.int
  | _ => none
theorem sem_sorted : Sem1F X (fun v H Q => rSortedI X.K [v] H Q) sortedD := fun {F H x ds v Q} al r e q => by
  unfold sortedD at e
  split at e
  · rename_i xs
    cases e1 : asInts xs with
    | none => rw [e1] at e; cases e
    | some ns =>
      rw [e1] at e; cases e
      obtain ⟨a, vs, rfl, h, r⟩ := r.v_lst
      rw [asInts_of e1] at r
      rw [reps_ints r] at h
      refine ⟨a, ns, rfl, h, fun ns' p hp hw hn => ?_⟩
      rw [sorted_eq (hp.trans (sortI_perm ns).symm) hw (sortI_pw ns)]
      exact q p _ hn (Reps.ints _)
  · cases e
/-! ### isinstance -/
inductive Ty where
  | int | bool | str | tuple | list
  deriving DecidableEq
def Ty.nm : Ty → String
  | .int => "int" | .bool => "bool" | .str => "str" | .tuple => "tuple" | .list => "list"
def isB : Ty → D → Bool
  | .int, .int _ => true
  | .int, .bl _ => true
  | .bool, .bl _ => true
  | .str, .str _ => true
  | .tuple, .tup _ => true
  | .list, .lst _ => true
  | .list, .kls _ => true
  | _, _ => false
def tyN : D → String
  | .non => "NoneType" | .bl _ => "bool" | .int _ => "int" | .str _ => "str" | .tup _ => "tuple" | .lst _ => "list" | .kls _ => "list" | .dik _ _ => "dict" | .dit _ _ => "dict"
theorem kit_all (t : Ty) (x : D) : kitB (tyN x) t.nm = some (isB t x) := by
  have h : ∀ t : Ty, kitB "NoneType" t.nm = some (isB t .non) ∧ kitB "bool" t.nm = some (isB t (.bl true)) ∧ kitB "int" t.nm = some (isB t (.int 0)) ∧ kitB "str" t.nm = some (isB t (.str "")) ∧ kitB "tuple" t.nm = some (isB t (.tup [])) ∧ kitB "list" t.nm = some (isB t (.lst [])) ∧ kitB "dict" t.nm = some (isB t (.dik [] [])) := by
    intro t; cases t <;> decide +kernel
  obtain ⟨h1, h2, h3, h4, h5, h6, h7⟩ := h t
  cases x with
  | non => exact h1
  | bl b => rw [show isB t (.bl b) = isB t (.bl true) by cases t <;> rfl]; exact h2
  | int b => rw [show isB t (.int b) = isB t (.int 0) by cases t <;> rfl]; exact h3
  | str b => rw [show isB t (.str b) = isB t (.str "") by cases t <;> rfl]; exact h4
  | tup b => rw [show isB t (.tup b) = isB t (.tup []) by cases t <;> rfl]; exact h5
  | lst b => rw [show isB t (.lst b) = isB t (.lst []) by cases t <;> rfl]; exact h6
  | kls b => rw [show isB t (.kls b) = isB t (.lst []) by cases t <;> rfl]; exact h6
  | dik k b => rw [show isB t (.dik k b) = isB t (.dik [] []) by cases t <;> rfl]; exact h7
  | dit k b => rw [show isB t (.dit k b) = isB t (.dik [] []) by cases t <;> rfl]; exact h7
theorem tyx_of {F : Addr → Prop} {H : Hp} {x : D} {v : V} (r : Bor X.K F H x v) : TyX X.K H v (.type (tyN x)) := by
  cases x with
  | non => rw [r.v_non]; exact .base .non
  | bl b => rw [r.v_bl]; exact .base (.bl _)
  | int b => rw [r.v_int]; exact .base (.int _)
  | str b => rw [r.v_str]; exact .base (.str _)
  | tup b =>
    obtain ⟨a, vs, rfl, h, _⟩ := r.v_tup
    rcases h with (h | ⟨o, h⟩) | ⟨o, its, n, h, c, _⟩
    · exact .base (.tup h)
    · exact .fTuple h
    · exact .kTuple h c
  | lst b =>
    obtain ⟨a, vs, rfl, h, _⟩ := r.v_lstH
    exact .base (.lst h)
  | kls b =>
    obtain ⟨a, vs, rfl, h, _⟩ := r.v_kls
    rcases h with (h | ⟨o, h⟩) | ⟨o, its, n, h, c, _⟩
    · exact .base (.lst h)
    · exact .base (.frz h)
    · exact .kList h c
  | dik k b =>
    obtain ⟨a, kvs, rfl, h, _⟩ := r
    exact .base (.dK h)
  | dit k b =>
    obtain ⟨a, kvs, rfl, h, _⟩ := r
    exact .base (.dT h)
def isiD (t : Ty) (x : D) : Option D := some (.bl (isB t x))
theorem sem_isi {t : Ty} : Sem1 X (fun v H Q => rIsi X.K [v, .ty t.nm] H Q) (isiD t) := fun {F H x z v Q} al r e q => by
  cases e
  exact ⟨v, .ty t.nm, _, _, _, rfl, .ty _, tyx_of r, kit_ty (kit_all t x), q _ _ (Same.refl _) (.bl _)⟩
theorem se_isi {t : Ty} {p : Opd} {e te : Expr} {pp : Pos} (hg : Gl X "isinstance") (hm : X.mg "isinstance" = none) (ha : SO X W p e) (ht : PE X te (tC (.ty t.nm)))
    (he : starEach (e :: [te]) X.env = (false, eval e X.env) :: starEach [te] X.env := by rfl) (he2 : starEach (te :: []) X.env = (false, eval te X.env) :: starEach [] X.env := by rfl) (hpl : (backTo pos (starEach [te] X.env)).any (·.1) = false := by rfl) : SE X W (mop1 (isiD t) p) (.Call (.Name "isinstance" pp) [e, te] [] pos) :=
  (pe_callB call_isi hg hm (by decide +kernel) (pa_cons ha (pa_cons ht pa_nil he2) he) (by decide) (by decide) he hpl).imp (op1_of sem_isi)
/-- isinstance(x, (T, U)) -/
def isi2D (t u : Ty) (x : D) : Option D := some (.bl (isB t x || isB u x))
theorem Bor.go {F : Addr → Prop} {H H' : Hp} {x : D} {v : V} (k : Same H H') (r : Bor X.K F H x v) : Bor X.K F H' x v := by
  have m : ∀ {d : D} {v : V}, Rep X.K F H d v → Rep X.K F H' d v := fun r => r.mono (fun a z => .inl z) fun a o e _ => k a o e
  have ms : ∀ {d : List D} {v : List V}, Reps X.K F H d v → Reps X.K F H' d v := fun r => r.mono (fun a z => .inl z) fun a o e _ => k a o e
  cases x with
  | lst ds => obtain ⟨a, vs, rfl, h, r⟩ := r; exact ⟨a, vs, rfl, k a _ h, ms r⟩
  | kls b => exact m r
  | non => exact m r
  | bl b => exact m r
  | int b => exact m r
  | str b => exact m r
  | tup b => exact m r
  | dik ks b => obtain ⟨a, vs, rfl, h, e, r⟩ := r; exact ⟨a, vs, rfl, k a _ h, e, ms r⟩
  | dit ks b => obtain ⟨a, vs, rfl, h, e, r⟩ := r; exact ⟨a, vs, rfl, k a _ h, e, ms r⟩
theorem sem_isi2 {t u : Ty} : Sem1 X (fun v H Q => ∀ p, H p = none → rIsiT X.K [v, .ref p] (upd H p (.tup [.ty t.nm, .ty u.nm])) Q) (isi2D t u) := fun {F H x z v Q} al r e q => by
  cases e
  intro p hp
  refine ⟨v, p, [.ty t.nm, .ty u.nm], _, [.type t.nm, .type u.nm], _, rfl, upd_same, .cons (.ty _) (.cons (.ty _) .nil), tyx_of (r.go (Same.new hp _)), ?_, q _ _ (Same.new hp _) (.bl _)⟩
  cases h1 : isB t x with
  | true => exact kitAny_cons (b := true) (by rw [← h1]; exact kit_ty (kit_all t x)) (fun z => by cases z) fun _ => rfl
  | false =>
    refine kitAny_cons (b := false) (by rw [← h1]; exact kit_ty (kit_all t x)) (fun _ => ?_) (fun z => by cases z)
    refine kitAny_cons (b := isB u x) (kit_ty (kit_all u x)) (fun h => ?_) fun h => ?_
    · rw [h]; exact kitAny_nil
    · rw [h]; rfl
theorem se_isi2 {t u : Ty} {p : Opd} {e te ue : Expr} {pp : Pos} {x1 tpos} (hg : Gl X "isinstance") (hm : X.mg "isinstance" = none) (ha : SO X W p e) (ht : PE X te (tC (.ty t.nm))) (hu : PE X ue (tC (.ty u.nm)))
    (he : starEach (e :: [.Tuple [te, ue] x1 tpos]) X.env = (false, eval e X.env) :: starEach [.Tuple [te, ue] x1 tpos] X.env := by rfl) (he2 : starEach (.Tuple [te, ue] x1 tpos :: []) X.env = (false, eval (.Tuple [te, ue] x1 tpos) X.env) :: starEach [] X.env := by rfl)
    (he3 : starEach (te :: [ue]) X.env = (false, eval te X.env) :: starEach [ue] X.env := by rfl) (he4 : starEach (ue :: []) X.env = (false, eval ue X.env) :: starEach [] X.env := by rfl)
    (hpl : (backTo pos (starEach [.Tuple [te, ue] x1 tpos] X.env)).any (·.1) = false := by rfl) : SE X W (mop1 (isi2D t u) p) (.Call (.Name "isinstance" pp) [e, .Tuple [te, ue] x1 tpos] [] pos) :=
  (pe_callB call_isiT hg hm (by decide +kernel) (pa_cons ha (pa_cons (pe_tup (pa_cons ht (pa_cons hu pa_nil he4) he3)) pa_nil he2) he) (by decide) (by decide) he hpl).imp fun σ H Q h =>
    op1_of (p := p) (r := fun v H Q => ∀ p, H p = none → rIsiT X.K [v, .ref p] (upd H p (.tup [.ty t.nm, .ty u.nm])) Q) sem_isi2 σ H Q h |> fun h => by
      have mono : ∀ (Q1 Q2 : VK), (∀ v H, Q1 v H → Q2 v H) → tO X W p σ H Q1 → tO X W p σ H Q2 := fun Q1 Q2 k h => by
        cases p with
        | val f =>
          obtain ⟨F0, ρ, R, o⟩ := h
          exact ⟨F0, ρ, R, o.imp fun x ρ' g v H' R' S' r' => k _ _ (g v H' R' S' r')⟩
        | slot i => obtain ⟨v, e, q⟩ := h; exact ⟨v, e, k _ _ q⟩
      exact mono _ _ (fun v H1 q => ⟨by show 2 ≤ sizeLine; decide, fun p hp => q p hp⟩) h
end
end Z

namespace Z
open PySem L2

/-! ### a slot is stored -/
def mstore (i : Nat) (u : SV) : M Flow := fun ρ => match ρ[i]? with
  | some (some (.own true _)) => .bad
  | some (some (.tre true _)) => .bad
  | some _ => .ok .nx (ρ.set i (some u))
  | none => .bad
section
variable {K : PySem.W.Frag} {F0 : Addr → Prop} {ρ : En} {σ : St} {H H0 : Hp} {i : Nat}
theorem set_get {α : Type} {l : List α} {i j : Nat} {x y : α} (h : (l.set i x)[j]? = some y) : (j = i ∧ y = x) ∨ (j ≠ i ∧ l[j]? = some y) := by
  rw [List.getElem?_set] at h
  split at h
  · rename_i e
    split at h
    · cases h; exact .inl ⟨e.symm, rfl⟩
    · cases h
  · rename_i e
    exact .inr ⟨fun z => e z.symm, h⟩
/-- data in slot i -/
theorem Rl.setD (R : Rl K F0 ρ σ H) {x : D} {v : V} (r : Rep K (Fav F0 ρ σ) H x v) (hi : i < ρ.length) : Rl K F0 (ρ.set i (some (.d x))) (σ.set i (some v)) H ∧ ∀ a, Own (ρ.set i (some (.d x))) (σ.set i (some v)) a → Own ρ σ a := by
  have R' : Rl K (fun a => F0 a ∨ False) ρ σ H := R.less fun a z => z.elim id False.elim
  obtain ⟨R1, less⟩ := R'.setP (P := fun _ => False) (w := some (.d x)) (v := some v) (H' := H) (fun _ z => z.elim) hi (fun _ _ e _ _ => e) (fun u c e s => by cases e; exact absurd s (no_has rfl)) fun k => ⟨v, rfl, k (r.mono (fun a z => .inl (z.imp (fun z => z.elim id False.elim) id)) fun _ _ e _ => e)⟩
  exact ⟨R1, fun a z => (less a z).elim id fun ⟨u, e, s⟩ => by cases e; exact absurd s (no_has rfl)⟩
/-- nothing in slot i -/
theorem Rl.setN (R : Rl K F0 ρ σ H) {u : Option V} : Rl K F0 (ρ.set i none) (σ.set i u) H ∧ ∀ a, Own (ρ.set i none) (σ.set i u) a → Own ρ σ a := by
  by_cases hi : i < ρ.length
  · have R' : Rl K (fun a => F0 a ∨ False) ρ σ H := R.less fun a z => z.elim id False.elim
    obtain ⟨R1, less⟩ := R'.setP (P := fun _ => False) (w := none) (v := u) (H' := H) (fun _ z => z.elim) hi (fun _ _ e _ _ => e) (fun u c e s => by cases e) fun k => trivial
    exact ⟨R1, fun a z => (less a z).elim id fun ⟨u, e, s⟩ => by cases e⟩
  · rw [List.set_eq_of_length_le (by omega), List.set_eq_of_length_le (by rw [← R.len]; omega)]
    exact ⟨R, fun _ z => z⟩
/-- a new list in slot i -/
theorem Rl.setO {p : Addr} {ds : List D} {vs : List V} (R : Rl K (plus F0 p) ρ σ H) (np : ¬ F0 p) (hp : H p = some (.lst vs)) (r : Reps K (Fav (plus F0 p) ρ σ) H ds vs) (hi : i < ρ.length) :
    Rl K F0 (ρ.set i (some (.own false ds))) (σ.set i (some (.ref p))) H ∧ ∀ a, Own (ρ.set i (some (.own false ds))) (σ.set i (some (.ref p))) a → Own ρ σ a ∨ a = p := by
  have hs : ∀ u c, some (SV.own false ds) = some u → u.has (some (some (.ref p))) c → c = p := fun u c e s => by
    cases e
    have := own_has s
    cases this; rfl
  obtain ⟨R1, less⟩ := R.setP (P := fun a => a = p) (w := some (.own false ds)) (v := some (.ref p)) (H' := H) (fun c e => by rw [e]; exact np) hi (fun _ _ e _ _ => e) (fun u c e s => .inr (.inl (hs u c e s))) fun k => ⟨p, rfl, .own hp (Reps.all (fun h => k h) r)⟩
  exact ⟨R1, fun a z => (less a z).imp id fun ⟨u, e, s⟩ => hs u a e s⟩
theorem Stp.set {u : Option SV} {v : Option V} (hio : ∀ ds, ρ[i]? ≠ some (some (.own true ds))) (hio2 : ∀ es, ρ[i]? ≠ some (some (.tre true es))) (h : ∀ a, Own (ρ.set i u) (σ.set i v) a → Own ρ σ a ∨ H a = none) : Stp ρ σ H (ρ.set i u) (σ.set i v) H :=
  ⟨fun _ _ e _ => e, h, fun _ e => e, fun j ds e => by
    have ne : j ≠ i := fun z => by rw [z] at e; exact hio ds e
    exact ⟨List.getElem?_set_ne (Ne.symm ne), ds, by rw [List.getElem?_set_ne (Ne.symm ne)]; exact e⟩, fun j ds e => by
    have ne : j ≠ i := fun z => by rw [z] at e; exact hio2 ds e
    exact ⟨List.getElem?_set_ne (Ne.symm ne), ds, by rw [List.getElem?_set_ne (Ne.symm ne)]; exact e, rfl⟩, List.length_set⟩
/-- the store, its outcome -/
theorem store_cases {u : SV} {P : Rs Flow → Prop} (hb : ¬ P .bad) (o : P (mstore i u ρ)) : i < ρ.length ∧ ((∀ ds, ρ[i]? ≠ some (some (.own true ds))) ∧ ∀ es, ρ[i]? ≠ some (some (.tre true es))) ∧ P (.ok .nx (ρ.set i (some u))) := by
  unfold mstore at o
  split at o
  · exact (hb o).elim
  · exact (hb o).elim
  · rename_i hn hn2 e
    exact ⟨(List.getElem?_eq_some_iff.mp e).1, ⟨fun ds z => hn ds (by rw [z] at e; exact (Option.some.inj e).symm), fun ds z => hn2 ds (by rw [z] at e; exact (Option.some.inj e).symm)⟩, o⟩
  · exact (hb o).elim
end

section
variable {X : Cx} {W : WX} {F0 : Addr → Prop} {ρ ρ1 : En} {σ σ1 : St} {H H1 : Hp} {Ds : Ends}
theorem OutS.step (S : Stp ρ σ H ρ1 σ1 H1) {r : Rs Flow} (o : OutS X W F0 ρ σ H Ds r) : OutS X W F0 ρ1 σ1 H1 Ds r := by
  match r, o with
  | .ok .nx ρ', o => exact fun σ' H' R T => o σ' H' R (S.trans T)
  | .ok .bk ρ', o => exact fun σ' H' R T => o σ' H' R (S.trans T)
  | .ok .ct ρ', o => exact fun σ' H' R T => o σ' H' R (S.trans T)
  | .ok (.rt x) ρ', o => exact fun v σ' H' R T => o v σ' H' R (S.trans T)
  | .ok (.rf ds) ρ', o => exact fun p vs σ' H' R T hp => o p vs σ' H' R (S.trans T) (hp.elim (S.own p) fun h => .inr (S.trk p h))
  | .ok (.rtr ts) ρ', o => exact fun p es σ' H' R T hp => o p es σ' H' R (S.trans T) fun c hc => (hp c hc).elim (S.own c) fun h => .inr (S.trk c h)
  | .exc e ρ', o => exact fun cv d σ' H' R T => o cv d σ' H' R (S.trans T)
theorem OutS.bind {β : Type} {f : M β} {g : β → M Flow} (o : OutS X W F0 ρ σ H Ds (mbind f g ρ)) : Out X W F0 ρ σ H (fun x ρ' => OutS X W F0 ρ σ H Ds (g x ρ')) (f ρ) := by
  unfold mbind at o
  cases e : f ρ with
  | ok x ρ' => rw [e] at o; exact o
  | exc x ρ' => rw [e] at o; exact fun cv d H' R S x => o cv d σ H' R S x
  | bad => rw [e] at o; exact o
/-- an expression first, then a statement's rest -/
theorem sqE {f : M D} {g : D → M Flow} {Q : VK} (R : Rl X.K F0 ρ σ H) (o : OutS X W F0 ρ σ H Ds (mbind f g ρ))
    (k : ∀ x ρ1 v H1, Rl X.K F0 ρ1 σ H1 → Stp ρ σ H ρ1 σ H1 → Rep X.K (Fav F0 ρ1 σ) H1 x v → OutS X W F0 ρ1 σ H1 Ds (g x ρ1) → Q v H1) : tE X W f σ H Q :=
  ⟨F0, ρ, R, o.bind.imp fun x ρ1 o1 v H1 R1 S1 r1 => k x ρ1 v H1 R1 S1 r1 (o1.step S1)⟩
theorem sqF {f : M (List D)} {g : List D → M Flow} {Q : VK} (R : Rl X.K F0 ρ σ H) (o : OutS X W F0 ρ σ H Ds (mbind f g ρ))
    (k : ∀ x ρ1 p vs H1, Rl X.K (plus F0 p) ρ1 σ H1 → Stp ρ σ H ρ1 σ H1 → H p = none → H1 p = some (.lst vs) → Reps X.K (Fav (plus F0 p) ρ1 σ) H1 x vs → OutS X W F0 ρ σ H Ds (g x ρ1) → Q (.ref p) H1) : tF X W f σ H Q :=
  ⟨F0, ρ, R, o.bind.imp fun x ρ1 o1 p vs H1 R1 S1 hp hv r1 => k x ρ1 p vs H1 R1 S1 hp hv r1 o1⟩
theorem sqT {f : M Bool} {g : Bool → M Flow} {Q : Bool → Hp → Prop} (R : Rl X.K F0 ρ σ H) (o : OutS X W F0 ρ σ H Ds (mbind f g ρ))
    (k : ∀ x ρ1 H1, Rl X.K F0 ρ1 σ H1 → Stp ρ σ H ρ1 σ H1 → OutS X W F0 ρ1 σ H1 Ds (g x ρ1) → Q x H1) : tT X W f σ H Q :=
  ⟨F0, ρ, R, o.bind.imp fun x ρ1 o1 H1 R1 S1 => k x ρ1 H1 R1 S1 (o1.step S1)⟩

/-! ### statements -/
variable {g k : M Flow} {st : Stmt} {rest : List Stmt} {pos : Pos}
def mseq (g k : M Flow) : M Flow := fun ρ => match g ρ with
  | .ok .nx ρ' => k ρ'
  | r => r
def mnx : M Flow := mpure .nx
theorem sss_nil : SSs X W mnx [] := pss_nil.imp fun D σ H ⟨F0, ρ, R, o⟩ => o σ H R (Stp.refl _ _ _)
theorem sss_cons (h1 : SS X W g st) (h2 : SSs X W k rest) : SSs X W (mseq g k) (st :: rest) := (pss_cons h1 h2).imp fun D σ H ⟨F0, ρ, R, o⟩ => by
  refine ⟨F0, ρ, R, ?_⟩
  unfold mseq at o
  cases e : g ρ with
  | bad => rw [e] at o; exact o
  | exc x ρ' => rw [e] at o; exact o
  | ok f ρ' =>
    rw [e] at o
    cases f with
    | nx => exact fun σ' H' R' S' => ⟨F0, ρ', R', OutS.step S' o⟩
    | bk => exact o
    | ct => exact o
    | rt x => exact o
    | rf x => exact o
    | rtr x => exact o
theorem sss_one (h1 : SS X W g st) : SSs X W g [st] := pss_one h1
theorem ss_pass : SS X W mnx (.Pass pos) := ps_pass.imp fun D σ H ⟨F0, ρ, R, o⟩ => o σ H R (Stp.refl _ _ _)
theorem ss_break : SS X W (mpure .bk) (.Break pos) := ps_break.imp fun D σ H ⟨F0, ρ, R, o⟩ => o σ H R (Stp.refl _ _ _)
theorem ss_continue : SS X W (mpure .ct) (.Continue pos) := ps_continue.imp fun D σ H ⟨F0, ρ, R, o⟩ => o σ H R (Stp.refl _ _ _)
theorem ss_never : SS X W mbad st := ps_never.imp fun D σ H ⟨F0, ρ, R, o⟩ => o
theorem sss_never {sts : List Stmt} : SSs X W mbad sts := pss_never.imp fun D σ H ⟨F0, ρ, R, o⟩ => o
def mdo {α : Type} (f : M α) : M Flow := mbind f fun _ => mpure .nx
theorem ss_expr {f : M D} {e : Expr} (he : SE X W f e) (hs : swapsWith e none pos.line X.env = pure false := by rfl) : SS X W (mdo f) (.Expr e pos) := (ps_expr he hs).imp fun D σ H ⟨F0, ρ, R, o⟩ =>
  sqE R o fun x ρ1 v H1 R1 S1 r1 o1 => o1 σ H1 R1 (Stp.refl _ _ _)
def mret (f : M D) : M Flow := mbind f fun x => mpure (.rt x)
def mretF (f : M (List D)) : M Flow := mbind f fun x => mpure (.rf x)
theorem ss_ret {f : M D} {e : Expr} (he : SE X W f e) : SS X W (mret f) (.Return (some e) pos) := (ps_ret he).imp fun D σ H ⟨F0, ρ, R, o⟩ =>
  sqE R o fun x ρ1 v H1 R1 S1 r1 o1 => o1 v σ H1 R1 (Stp.refl _ _ _) r1
theorem ss_retF {f : M (List D)} {e : Expr} (he : SF X W f e) : SS X W (mretF f) (.Return (some e) pos) := (ps_ret he).imp fun D σ H ⟨F0, ρ, R, o⟩ =>
  sqF R o fun x ρ1 p vs H1 R1 S1 hp hv r1 o1 => o1 p vs σ H1 R1 S1 (.inr hp) hv r1
theorem ss_retN : SS X W (mpure (.rt .non)) (.Return none pos) := ps_retN.imp fun D σ H ⟨F0, ρ, R, o⟩ => o .non σ H R (Stp.refl _ _ _) .non
/-- return of a list of one's own -/
def mretO (i : Nat) : M Flow := fun ρ => match ρ[i]? with
  | some (some (.own false ds)) => .ok (.rf ds) (ρ.set i none)
  | _ => .bad
def mset (i : Nat) (f : M D) : M Flow := mbind f fun x => mstore i (.d x)
def msetF (i : Nat) (f : M (List D)) : M Flow := mbind f fun ds => mstore i (.own false ds)
theorem set_end {f : M D} {i : Nat} (R : Rl X.K F0 ρ σ H) (o : OutS X W F0 ρ σ H Ds (mset i f ρ)) : tE X W f σ H fun x H1 => Ds.nx (σ.set i (some x)) H1 :=
  sqE R o fun x ρ1 v H1 R1 S1 r1 o1 => by
    obtain ⟨hi, hn, o2⟩ := store_cases (P := OutS X W F0 ρ1 σ H1 Ds) (fun z => z) o1
    obtain ⟨R2, less⟩ := R1.setD r1 hi
    exact o2 _ H1 R2 (Stp.set hn.1 hn.2 fun a z => .inl (less a z))
theorem setF_end {f : M (List D)} {i : Nat} (R : Rl X.K F0 ρ σ H) (o : OutS X W F0 ρ σ H Ds (msetF i f ρ)) : tF X W f σ H fun x H1 => Ds.nx (σ.set i (some x)) H1 :=
  sqF R o fun x ρ1 p vs H1 R1 S1 hp hv r1 o1 => by
    obtain ⟨hi, hn, o2⟩ := store_cases (P := OutS X W F0 ρ σ H Ds) (fun z => z) o1
    have np : ¬ F0 p := fun z => by obtain ⟨o, e⟩ := R.alc p z; rw [hp] at e; cases e
    obtain ⟨R2, less⟩ := R1.setO np hv r1 hi
    refine o2 _ H1 R2 ⟨S1.keep, fun a z => ?_, S1.trk, fun j ds e => ?_, fun j ds e => ?_, by rw [List.length_set]; exact S1.len⟩
    · rcases less a z with z | z
      · exact S1.own a z
      · rw [z]; exact .inr hp
    · obtain ⟨e1, ds', e2⟩ := S1.io j ds e
      have ne : j ≠ i := fun z => by rw [z] at e2; exact hn.1 ds' e2
      exact ⟨by rw [List.getElem?_set_ne (Ne.symm ne)], ds', by rw [List.getElem?_set_ne (Ne.symm ne)]; exact e2⟩
    · obtain ⟨e1, ds', e2, e3⟩ := S1.ioT j ds e
      have ne : j ≠ i := fun z => by rw [z] at e2; exact hn.2 ds' e2
      exact ⟨by rw [List.getElem?_set_ne (Ne.symm ne)], ds', by rw [List.getElem?_set_ne (Ne.symm ne)]; exact e2, e3⟩
theorem ss_set {i : Nat} {x : Str} {e : Expr} {f : M D} {pos' : Pos} (hN : X.N.Nodup) (hi : X.N[i]? = some x) (hx : Loc X.env.scope x) (he : SE X W f e) (hs : swapsWith e (some (.Name x pos')) pos.line X.env = pure false := by rfl) (hf : X.fn x = true ∨ X.env.scope.names.lookup x = some .local := by first | exact .inl rfl | exact .inr rfl | assumption) :
    SS X W (mset i f) (.Assign [.Name x pos'] e pos) := (ps_set hN hi hx he hs hf).imp fun D σ H ⟨F0, ρ, R, o⟩ => set_end R o
theorem ss_setF {i : Nat} {x : Str} {e : Expr} {f : M (List D)} {pos' : Pos} (hN : X.N.Nodup) (hi : X.N[i]? = some x) (hx : Loc X.env.scope x) (he : SF X W f e) (hs : swapsWith e (some (.Name x pos')) pos.line X.env = pure false := by rfl) (hf : X.fn x = true ∨ X.env.scope.names.lookup x = some .local := by first | exact .inl rfl | exact .inr rfl | assumption) :
    SS X W (msetF i f) (.Assign [.Name x pos'] e pos) := (ps_set hN hi hx he hs hf).imp fun D σ H ⟨F0, ρ, R, o⟩ => setF_end R o
def mifS (p : M Bool) (g k : M Flow) : M Flow := mbind p fun c => if c = true then g else k
theorem endS {g : M Flow} (R : Rl X.K F0 ρ σ H) (o : OutS X W F0 ρ σ H Ds (g ρ)) : tS X W g Ds σ H := ⟨F0, ρ, R, o⟩
theorem ss_if {c : Expr} {a b : List Stmt} {p : M Bool} (hc : ST X W p c) (ha : SSs X W g a) (hb : SSs X W k b) : SS X W (mifS p g k) (.If c a b pos) := (ps_if hc ha hb).imp fun D σ H ⟨F0, ρ, R, o⟩ =>
  sqT R o fun c ρ1 H1 R1 S1 o1 => by
    cases c with
    | true => exact iteT (endS R1 o1)
    | false => exact iteF (endS R1 o1)
/-! a list of one's own is written -/
theorem Rl.write {K : PySem.W.Frag} {i : Nat} {b : Bool} {ds ds' : List D} {a : Addr} {vs' : List V} (R : Rl K F0 ρ σ H) (e : ρ[i]? = some (some (.own b ds))) (s : σ[i]? = some (some (.ref a))) (r : Reps K (Fav F0 ρ σ) H ds' vs') :
    Rl K F0 (ρ.set i (some (.own b ds'))) σ (upd H a (.lst vs')) ∧ Stp ρ σ H (ρ.set i (some (.own b ds'))) σ (upd H a (.lst vs')) := by
  have hi : i < ρ.length := (List.getElem?_eq_some_iff.mp e).1
  have es : σ.set i (some (.ref a)) = σ := set_same s
  have oa : OwnAt ρ σ i a := ⟨_, e, .inl ⟨rfl, s⟩⟩
  obtain ⟨R1, S1⟩ := R.set (w := some (.own b ds')) (v := some (.ref a)) (H' := upd H a (.lst vs')) hi (fun c o e n => by rw [upd_ne fun z => n (by rw [z]; exact oa)]; exact e) (fun c z => by
      by_cases h : c = a
      · rw [h, upd_same] at z; cases z
      · rw [upd_ne h] at z; exact z) (fun u c e s => by
      cases e
      have := own_has s
      cases this
      exact .inl oa) (fun ds2 e2 => by rw [e] at e2; cases e2; exact ⟨s, _, rfl⟩) (fun es e2 => by rw [e] at e2; cases e2) fun k => ⟨a, rfl, .own upd_same (Reps.all (fun h => k h) r)⟩
  rw [es] at R1 S1
  exact ⟨R1, S1⟩
/-- slot i's list becomes ds -/
def mput (i : Nat) (f : List D → Option (List D)) : M Unit := fun ρ => match ρ[i]? with
  | some (some (.own b ds)) => match f ds with
    | some ds' => .ok () (ρ.set i (some (.own b ds')))
    | none => .bad
  | _ => .bad
theorem put_at {α : Type} {good : α → En → Prop} {ρ0 : En} {H0 : Hp} {i : Nat} {f : List D → Option (List D)} {k : Unit → M α} (R : Rl X.K F0 ρ σ H) (o : Out X W F0 ρ0 σ H0 good (mbind (mput i f) k ρ)) :
    ∃ a vs b ds ds', ρ[i]? = some (some (.own b ds)) ∧ σ[i]? = some (some (.ref a)) ∧ H a = some (.lst vs) ∧ Reps X.K (Fav F0 ρ σ) H ds vs ∧ f ds = some ds' ∧ Out X W F0 ρ0 σ H0 good (k () (ρ.set i (some (.own b ds')))) := by
  unfold mbind mput at o
  split at o
  · rename_i x ρ' e
    split at e
    · rename_i b ds e1
      split at e
      · rename_i ds' e2
        cases e
        obtain ⟨a, vs, e3, e4, r, _⟩ := R.lst i b _ e1
        exact ⟨a, vs, b, _, _, e1, e3, e4, r, e2, o⟩
      · cases e
    · cases e
  · rename_i e
    split at e
    · split at e <;> cases e
    · cases e
  · exact o.elim
/-- a method of the list of slot i, with one argument: the answer and the new list -/
def mmeth1 (i : Nat) (sem : List D → D → Option (D × List D)) (f : M D) : M D := mbind (mown i) fun _ => mbind f fun x => mbind (mown i) fun ds => mbind (mopt (sem ds x)) fun z => mbind (mput i fun _ => some z.2) fun _ => mpure z.1
def mmeth0 (i : Nat) (sem : List D → Option (D × List D)) : M D := mbind (mown i) fun ds => mbind (mopt (sem ds)) fun z => mbind (mput i fun _ => some z.2) fun _ => mpure z.1
/-- what a method's rule asks is what sem says -/
def SemM1 (X : Cx) (r : V → List V → Hp → VK → Prop) (sem : List D → D → Option (D × List D)) : Prop := ∀ {F : Addr → Prop} {H : Hp} {a : Addr} {ds : List D} {vs : List V} {x : D} {v : V} {z : D × List D} {Q : VK}, H a = some (.lst vs) → Reps X.K F H ds vs → Rep X.K F H x v → sem ds x = some z →
  (∀ vs' w, Reps X.K F H z.2 vs' → Rep X.K F H z.1 w → Q w (upd H a (.lst vs'))) → r (.ref a) [v] H Q
def SemM0 (X : Cx) (r : V → List V → Hp → VK → Prop) (sem : List D → Option (D × List D)) : Prop := ∀ {F : Addr → Prop} {H : Hp} {a : Addr} {ds : List D} {vs : List V} {z : D × List D} {Q : VK}, H a = some (.lst vs) → Reps X.K F H ds vs → sem ds = some z →
  (∀ vs' w, Reps X.K F H z.2 vs' → Rep X.K F H z.1 w → Q w (upd H a (.lst vs'))) → r (.ref a) [] H Q
theorem put_end {α : Type} {ρ0 : En} {H0 : Hp} {good : α → En → Prop} {i : Nat} {z : List D} {k : Unit → M α} {a : Addr} {vs' : List V} (R : Rl X.K F0 ρ σ H) (s : σ[i]? = some (some (.ref a))) (r : Reps X.K (Fav F0 ρ σ) H z vs') (o : Out X W F0 ρ0 σ H0 good (mbind (mput i fun _ => some z) k ρ)) :
    ∃ ρ', Rl X.K F0 ρ' σ (upd H a (.lst vs')) ∧ Stp ρ σ H ρ' σ (upd H a (.lst vs')) ∧ Out X W F0 ρ0 σ H0 good (k () ρ') := by
  obtain ⟨a', vs, b, ds, ds', e1, e2, e3, _, e4, o2⟩ := put_at R o
  rw [s] at e2; cases e2
  cases e4
  obtain ⟨R2, S2⟩ := R.write e1 s r
  exact ⟨_, R2, S2, o2⟩
theorem se_meth1 {i : Nat} {sem : List D → D → Option (D × List D)} {r : V → List V → Hp → VK → Prop} {f : M D} {e : Expr} (hs : SemM1 X r sem) (h : PE X e (tBM X.K "list" r (tVar i) (tCons (tE X W f) tNil))) : SE X W (mmeth1 i sem f) e := h.imp fun σ H Q ⟨F0, ρ, R, o⟩ => by
  obtain ⟨a, us, xs, e1, e2, _, o1⟩ := own_at R o
  refine ⟨_, e1, .inl ⟨rfl, _, SqL.of e2⟩, seqE R o1 fun x ρ1 v H1 R1 S1 r1 o2 => ?_⟩
  obtain ⟨a', us', ds, e1', e2', r2, o3⟩ := own_at R1 o2
  rw [e1] at e1'; cases e1'
  obtain ⟨z, ez, o4⟩ := Out.opt (Out.bind o3)
  refine hs e2' r2 r1 ez fun vs' w r3 r4 => ?_
  obtain ⟨ρ2, R2, S2, o5⟩ := put_end R1 e1 r3 o4
  exact o5 w _ R2 (S1.trans S2) (S2.rep r4)
theorem se_meth0 {i : Nat} {sem : List D → Option (D × List D)} {r : V → List V → Hp → VK → Prop} {e : Expr} (hs : SemM0 X r sem) (h : PE X e (tBM0 X.K "list" r (tVar i))) : SE X W (mmeth0 i sem) e := h.imp fun σ H Q ⟨F0, ρ, R, o⟩ => by
  obtain ⟨a, us, xs, e1, e2, r2, o1⟩ := own_at R o
  obtain ⟨z, ez, o4⟩ := Out.opt (Out.bind o1)
  refine ⟨_, e1, .inl ⟨rfl, _, SqL.of e2⟩, hs e2 r2 ez fun vs' w r3 r4 => ?_⟩
  obtain ⟨ρ2, R2, S2, o5⟩ := put_end R e1 r3 o4
  exact o5 w _ R2 S2 (S2.rep r4)
def appD (ds : List D) (x : D) : Option (D × List D) := if ds.length < sizeLine then some (.non, ds ++ [x]) else none
theorem sem_app : SemM1 X rAppend appD := fun {F H a ds vs x v z Q} h rs rx e q => by
  unfold appD at e
  split at e
  · rename_i hz; cases e
    exact ⟨a, vs, v, rfl, rfl, h, by rw [← rs.length]; exact hz, q _ _ (rs.append (.cons rx .nil)) .non⟩
  · cases e
def popAtD (ds : List D) : D → Option (D × List D)
  | .int k => if -(2 ^ 63) ≤ k ∧ k < 2 ^ 63 then match seqIndex? k ds.length with
    | some j => (ds[j]?).map fun x => (x, ds.eraseIdx j)
    | none => none
    else none
  | _ => none
theorem sem_popAt : SemM1 X rPopAt popAtD := fun {F H a ds vs x v z Q} h rs rx e q => by
  unfold popAtD at e
  split at e
  · split at e
    · rename_i hz
      split at e
      · rename_i j ej
        cases e3 : ds[j]? with
        | none => rw [e3] at e; cases e
        | some y =>
          rw [e3] at e; cases e
          obtain ⟨u, hu, ru⟩ := rs.get e3
          rw [rs.length] at ej
          exact ⟨a, vs, _, j, u, rfl, by rw [rx.v_int], h, hz.1, hz.2, ej, hu, q _ _ (rs.erase j) ru⟩
      · cases e
    · cases e
  · cases e
def popD (ds : List D) : Option (D × List D) := (ds[ds.length - 1]?).map fun x => (x, ds.dropLast)
theorem Reps.dropLast {K : PySem.W.Frag} {F : Addr → Prop} {H : Hp} {ds : List D} {vs : List V} (r : Reps K F H ds vs) : Reps K F H ds.dropLast vs.dropLast := by
  rw [List.dropLast_eq_take, List.dropLast_eq_take, r.length]
  exact r.take _
theorem sem_pop : SemM0 X rPop popD := fun {F H a ds vs z Q} h rs e q => by
  unfold popD at e
  cases e3 : ds[ds.length - 1]? with
  | none => rw [e3] at e; cases e
  | some y =>
    rw [e3] at e; cases e
    obtain ⟨u, hu, ru⟩ := rs.get e3
    rw [rs.length] at hu
    exact ⟨a, vs, u, rfl, rfl, h, hu, q _ _ rs.dropLast ru⟩
/-! xs[k] = e of the list of slot i: the value first, then the index -/
def setIxD (ds : List D) (k x : D) : Option (List D) := match k with
  | .int k => (ixN ds.length k).map fun j => ds.set j x
  | _ => none
def msetIx (i : Nat) (g f : M D) : M Flow := mdo (mbind f fun x => mbind (mown i) fun _ => mbind g fun k => mbind (mown i) fun ds => mbind (mopt (setIxD ds k x)) fun ds' => mbind (mput i fun _ => some ds') fun _ => mpure ())
theorem ss_setIx {i : Nat} {f g : M D} {o ix e : Expr} {tpos : Pos} (ho : PE X o (tVar i)) (hg : SE X W g ix) (hf : SE X W f e) (hs : swapsWithSole [.Subscript o ix tpos] e pos.line X.env = pure false := by rfl) (hw : swappedStores [.Subscript o ix tpos] e X.env = pure none := by rfl)
    (h1 : (assignEach [.Subscript o ix tpos] X.env).map (·.2) = [assign (.Subscript o ix tpos) X.env] := by rfl)
    (ha : ∀ v, assign (.Subscript o ix tpos) X.env v = (do
      let ov ← holding [v] (eval o X.env)
      let iv ← holding [v, ov] (eval ix X.env)
      standAt tpos
      holding [v, ov, iv] (setItem ov iv v)
      release [v, ov, iv] []) := by intro _; rfl) : SS X W (msetIx i g f) (.Assign [.Subscript o ix tpos] e pos) :=
  (ps_asg hf (pg_sub ho hg set_list ha) hs hw h1).imp fun D σ H ⟨F0, ρ, R, o⟩ => by
    have o : Out X W F0 ρ σ H _ _ := OutS.bind o
    refine seqE R o fun x ρ1 v H1 R1 S1 r1 o1 => ?_
    obtain ⟨a, us, xs, e1, e2, _, o2⟩ := own_at R1 o1
    refine ⟨_, e1, seqE R1 o2 fun k ρ2 u H2 R2 S2 r2 o3 => ?_⟩
    obtain ⟨a', us', ds, e1', e2', r3, o4⟩ := own_at R2 o3
    rw [e1] at e1'; cases e1'
    obtain ⟨ds', ez, o5⟩ := Out.opt (Out.bind o4)
    unfold setIxD at ez
    split at ez
    · rename_i k
      cases ej : ixN ds.length k with
      | none => rw [ej] at ez; cases ez
      | some j =>
        rw [ej] at ez; cases ez
        rw [r3.length] at ej
        refine ⟨a, us', k, j, rfl, r2.v_int, e2', ej, ?_⟩
        obtain ⟨ρ3, R3, S3, o6⟩ := put_end R2 e1 (Reps.set (S2.rep r1) j r3) o5
        exact o6 σ _ R3 (S1.trans (S2.trans S3))
    · cases ez
end
end Z

namespace Z
open PySem L2

/-! ### targets -/
theorem wipe_get (σ : St) : ∀ (vs : List Nat) (i : Nat), (wipe σ vs)[i]? = if i ∈ vs ∧ i < σ.length then some none else σ[i]?
  | [], i => by rw [if_neg (by simp)]; rfl
  | v :: vs, i => by
    unfold wipe
    rw [List.getElem?_set, wipe_length, wipe_get σ vs i]
    by_cases h : v = i
    · subst h
      rw [if_pos rfl]
      by_cases hv : v < σ.length
      · rw [if_pos hv, if_pos ⟨by simp, hv⟩]
      · rw [if_neg hv, if_neg (fun z => hv z.2), List.getElem?_eq_none (by omega)]
    · rw [if_neg h]
      by_cases hi : i ∈ vs ∧ i < σ.length
      · rw [if_pos hi, if_pos ⟨List.mem_cons_of_mem _ hi.1, hi.2⟩]
      · rw [if_neg hi, if_neg (fun z => hi ⟨(List.mem_cons.mp z.1).resolve_left (fun e => h e.symm), z.2⟩)]
theorem wipe_set {σ : St} {vs : List Nat} {i : Nat} {x : Option V} (hi : i ∈ vs) : wipe (σ.set i x) vs = wipe σ vs := by
  apply List.ext_getElem?
  intro j
  rw [wipe_get, wipe_get, List.length_set]
  by_cases h : j ∈ vs ∧ j < σ.length
  · rw [if_pos h, if_pos h]
  · rw [if_neg h, if_neg h, List.getElem?_set]
    by_cases e : i = j
    · subst e
      have : ¬ i < σ.length := fun z => h ⟨hi, z⟩
      rw [if_pos rfl, if_neg this, List.getElem?_eq_none (by omega)]
    · rw [if_neg e]
section
variable {X : Cx} {W : WX} {F0 : Addr → Prop} {ρ ρ1 : En} {σ σ1 : St} {H H1 : Hp} {Ds : Ends}
/-- a target's reading: slots js alone are stored -/
def tG (X : Cx) (js : List Nat) (t : D → M Unit) : TG := fun v σ H Q => ∃ F0 ρ x, Rl X.K F0 ρ σ H ∧ Rep X.K (Fav F0 ρ σ) H x v ∧ match t x ρ with
  | .ok _ ρ' => ∀ σ' H', Rl X.K F0 ρ' σ' H' → Stp ρ σ H ρ' σ' H' → wipe σ' js = wipe σ js → Same H H' → Q σ' H'
  | _ => False
def tGs (X : Cx) (js : List Nat) (t : List D → M Unit) : TGs := fun vs σ H Q => ∃ F0 ρ xs, Rl X.K F0 ρ σ H ∧ Reps X.K (Fav F0 ρ σ) H xs vs ∧ match t xs ρ with
  | .ok _ ρ' => ∀ σ' H', Rl X.K F0 ρ' σ' H' → Stp ρ σ H ρ' σ' H' → wipe σ' js = wipe σ js → Same H H' → Q σ' H'
  | _ => False
abbrev SG (X : Cx) (js : List Nat) (t : D → M Unit) (e : Expr) : Prop := PG X e (tG X js t)
abbrev SGs (X : Cx) (js : List Nat) (t : List D → M Unit) (es : List Expr) : Prop := PGs X es (tGs X js t)
theorem _root_.L2.PG.imp {X : Cx} {e : Expr} {t t' : TG} (h : PG X e t) (k : ∀ v σ H Q, t' v σ H Q → t v σ H Q) : PG X e t' := ⟨fun pins s σ H v u Q I r q => h.run pins s σ H v u Q I r (k _ _ _ _ q)⟩
theorem _root_.L2.PGs.imp {X : Cx} {e : List Expr} {t t' : TGs} (h : PGs X e t) (k : ∀ v σ H Q, t' v σ H Q → t v σ H Q) : PGs X e t' := ⟨fun pins s σ H v u Q I r q => h.run pins s σ H v u Q I r (k _ _ _ _ q)⟩
def gnm (i : Nat) (x : D) : M Unit := fun ρ => match ρ[i]? with
  | some (some (.own true _)) => .bad
  | some (some (.tre true _)) => .bad
  | some _ => .ok () (ρ.set i (some (.d x)))
  | none => .bad
theorem gnm_ok {i : Nat} {x : D} {P : Rs Unit → Prop} (hb : ¬ P .bad) (o : P (gnm i x ρ)) : i < ρ.length ∧ ((∀ ds, ρ[i]? ≠ some (some (.own true ds))) ∧ ∀ es, ρ[i]? ≠ some (some (.tre true es))) ∧ P (.ok () (ρ.set i (some (.d x)))) := by
  unfold gnm at o
  split at o
  · exact (hb o).elim
  · exact (hb o).elim
  · rename_i hn hn2 e
    exact ⟨(List.getElem?_eq_some_iff.mp e).1, ⟨fun ds z => hn ds (by rw [z] at e; exact (Option.some.inj e).symm), fun ds z => hn2 ds (by rw [z] at e; exact (Option.some.inj e).symm)⟩, o⟩
  · exact (hb o).elim
theorem sg_name {js : List Nat} {i : Nat} {x : Str} {pos : Pos} (hj : i ∈ js) (h : PG X (.Name x pos) (gName i)) : SG X js (gnm i) (.Name x pos) := h.imp fun v σ H Q ⟨F0, ρ, x, R, r, o⟩ => by
  obtain ⟨hi, hn, o2⟩ := gnm_ok (ρ := ρ) (i := i) (x := x) (P := fun o => match o with
    | .ok _ ρ' => ∀ σ' H', Rl X.K F0 ρ' σ' H' → Stp ρ σ H ρ' σ' H' → wipe σ' js = wipe σ js → Same H H' → Q σ' H'
    | _ => False) (fun z => z) o
  obtain ⟨R2, less⟩ := R.setD r hi
  exact o2 _ H R2 (Stp.set hn.1 hn.2 fun a z => .inl (less a z)) (wipe_set hj) (Same.refl _)
def gnil (xs : List D) : M Unit := match xs with
  | [] => mpure ()
  | _ => mbad
def gcons (t : D → M Unit) (u : List D → M Unit) (xs : List D) : M Unit := match xs with
  | x :: r => mbind (t x) fun _ => u r
  | [] => mbad
theorem sg_nil {js : List Nat} : SGs X js gnil [] := pgs_nil.imp fun vs σ H Q ⟨F0, ρ, xs, R, r, o⟩ => by
  cases r with
  | nil => exact ⟨rfl, o σ H R (Stp.refl _ _ _) rfl (Same.refl _)⟩
  | cons h r => exact o.elim
theorem sg_cons {js : List Nat} {t : D → M Unit} {u : List D → M Unit} {e : Expr} {es : List Expr} (h1 : SG X js t e) (h2 : SGs X js u es) (hs : (assignEach (e :: es) X.env).map (·.2) = assign e X.env :: (assignEach es X.env).map (·.2) := by rfl) : SGs X js (gcons t u) (e :: es) :=
  (pgs_cons h1 h2 hs).imp fun vs σ H Q ⟨F0, ρ, xs, R, r, o⟩ => by
    cases r with
    | nil => exact o.elim
    | cons h r =>
      refine ⟨_, _, rfl, F0, ρ, _, R, h, ?_⟩
      unfold gcons mbind at o
      simp only at o
      split at o
      · rename_i a ρ1 e
        split at e
        · rename_i b ρ2 e1
          rw [e1]
          intro σ1 H1 R1 S1 w1 k1
          refine ⟨F0, ρ2, _, R1, S1.reps r, ?_⟩
          rw [e]
          exact fun σ2 H2 R2 S2 w2 k2 => o σ2 H2 R2 (S1.trans S2) (w2.trans w1) (k1.trans k2)
        · cases e
        · cases e
      · exact o.elim
def gtup (n : Nat) (t : List D → M Unit) (x : D) : M Unit := match x with
  | .tup xs => if xs.length = n then t xs else mbad
  | _ => mbad
theorem sg_tup {js : List Nat} {es : List Expr} {k : Nat} {t : List D → M Unit} {n : Nat} {pos : Pos} (hc : X.calm = true) (h : SGs X js t es)
    (hn : (assignEach es X.env).length = n := by rfl) (hst : (assignEach es X.env).findIdx? (·.1) = none := by rfl) : SG X js (gtup n t) (.Tuple es k pos) := (pg_tup hc h hn hst).imp fun v σ H Q ⟨F0, ρ, x, R, r, o⟩ => by
  unfold gtup at o
  cases r with
  | @tup a vs ds h m r =>
    simp only at o
    by_cases hl : ds.length = n
    · rw [if_pos hl] at o
      exact ⟨_, _, rfl, h, by rw [← r.length]; exact hl, F0, ρ, _, R, r, o⟩
    · rw [if_neg hl] at o
      exact o.elim
  | non => exact o.elim
  | bl b => exact o.elim
  | int b => exact o.elim
  | str b => exact o.elim
  | lst h m r => exact o.elim
  | kls h m r => exact o.elim
  | dik h m r => exact o.elim
  | dit h m r => exact o.elim

/-! ### what is walked -/
/-- J yields the data ds, as long as what is not in F stays -/
def Iters (K : PySem.W.Frag) (F : Addr → Prop) (H1 : Hp) (J : It) (ds : List D) : Prop := ∀ H2, (∀ a o, H1 a = some o → ¬ F a → H2 a = some o) → J.stop ds.length H2 ∧
  ∀ i d, ds[i]? = some d → J.go i H2 ∧ ∀ x H3, J.yld i H2 x H3 → Same H2 H3 ∧ ∀ F' : Addr → Prop, (∀ a, F' a → F a ∨ H1 a = none) → (∀ a, F' a → ∃ o, H2 a = some o) → Rep K F' H3 d x
def tI (X : Cx) (W : WX) (f : M (List D)) : TI := fun σ H R => ∃ F0 ρ, Rl X.K F0 ρ σ H ∧ Out X W F0 ρ σ H (fun ds ρ' => ∀ J H', Rl X.K F0 ρ' σ H' → Stp ρ σ H ρ' σ H' → Iters X.K (Fav F0 ρ' σ) H' J ds → R J H') (f ρ)
abbrev SI (X : Cx) (W : WX) (f : M (List D)) (tg iter : Expr) : Prop := PI X tg iter (tI X W f)
theorem _root_.L2.PI.imp {X : Cx} {tg e : Expr} {t t' : TI} (h : PI X tg e t) (k : ∀ σ H R, t' σ H R → t σ H R) : PI X tg e t' := ⟨fun pins s σ H R I q => h.run pins s σ H R I (k _ _ _ q)⟩
def itemsD : D → Option (List D)
  | .lst xs => some xs
  | .kls xs => some xs
  | .tup xs => some xs
  | _ => none
/-- a list or a tuple -/
def iSeq (K : PySem.W.Frag) (tl : TE) : TI := fun σ H R => tl σ H fun x H1 => ∃ a, x = .ref a ∧ (((∃ xs, SqL K H1 a xs) ∧ R (Itl K a) H1) ∨ ((∃ xs, SqT K H1 a xs) ∧ R (Itt K a) H1))
theorem pi_seq {tg l : Expr} {tl : TE} (hl : PE X l tl) : PI X tg l (iSeq X.K tl) := by
  refine ⟨fun pins s σ H R I h => ?_⟩
  refine thn (hl.run pins s σ H _ I h) fun v s1 ⟨x, H1, I1, r1, q1⟩ => ?_
  obtain ⟨a, e, q⟩ := q1
  subst e
  cases r1
  rcases q with ⟨⟨xs, hq⟩, q⟩ | ⟨⟨xs, hq⟩, q⟩
  · obtain ⟨its, rv, p, hz⟩ := I1.list hq
    refine wpAny_pyIter_list p.isList ?_
    refine ⟨s1.heap.objs.size, [s1.heap.objs.size], _, _, H1, rfl, I1.kept (t' := s1.toks) fun b o e => Heap.get?_push_of_some _ e, turn_list a _, ⟨_, Heap.get?_push_size _ rfl, rfl, rfl⟩, fun b hb => ?_, q⟩
    have e : b = s1.heap.objs.size := by simpa using hb
    subst e
    exact I1.fpOk (Nat.le_refl _) (I1.hok.fresh (Nat.le_refl _))
  · obtain ⟨its, rv, p, hz⟩ := I1.tuple hq
    refine wpAny_pyIter_tuple (show s1.heap.IsTuple a its.toArray from p) ?_
    refine ⟨s1.heap.objs.size, [s1.heap.objs.size], _, _, H1, rfl, I1.kept (t' := s1.toks) fun b o e => Heap.get?_push_of_some _ e, turn_tuple a _, ⟨_, Heap.get?_push_size _ rfl, rfl, rfl⟩, fun b hb => ?_, q⟩
    have e : b = s1.heap.objs.size := by simpa using hb
    subst e
    exact I1.fpOk (Nat.le_refl _) (I1.hok.fresh (Nat.le_refl _))
theorem SqL_inj {K : PySem.W.Frag} {H : Hp} {a : Addr} {xs ys : List V} (h : H a = some (.lst xs)) (h' : Rd H a (.lst ys)) : xs = ys := by
  rcases h' with h' | ⟨o, h'⟩
  · rw [h] at h'; cases h'; rfl
  · rw [h] at h'; cases h'
/-- two readings of what is not changed -/
theorem iters_kls {K : PySem.W.Frag} {F : Addr → Prop} {H : Hp} {ds : List D} {v : V} (r : Rep K F H (.kls ds) v) : ∃ a, v = .ref a ∧ (∃ xs, SqL K H a xs) ∧ Iters K F H (Itl K a) ds := by
  cases r with
  | @kls a vs _ h n r =>
    refine ⟨a, rfl, ⟨vs, h⟩, fun H2 k => ?_⟩
    have h2 : SqL K H2 a vs := by
      rcases n with n | n
      · exact ZqL.go h fun o e => k a o e n
      · exact n H2
    refine ⟨⟨vs, h2, by rw [r.length]; exact Nat.le_refl _⟩, fun i d e => ?_⟩
    obtain ⟨x, ex, rx⟩ := r.get e
    refine ⟨⟨vs, x, h2, ex⟩, fun y H3 hy => ?_⟩
    obtain ⟨e3, hy⟩ := hy
    subst e3
    have e4 := hy vs h2
    rw [ex] at e4; cases e4
    exact ⟨Same.refl _, fun F' hF _ => rx.mono hF k⟩
theorem iters_lst {K : PySem.W.Frag} {F : Addr → Prop} {H : Hp} {ds : List D} {v : V} (r : Rep K F H (.lst ds) v) : ∃ a, v = .ref a ∧ (∃ xs, SqL K H a xs) ∧ Iters K F H (Itl K a) ds := by
  cases r with
  | lst h n r => exact iters_kls (.kls (SqL.of h) (.inl n) r)
theorem iters_tup {K : PySem.W.Frag} {F : Addr → Prop} {H : Hp} {ds : List D} {v : V} (r : Rep K F H (.tup ds) v) : ∃ a, v = .ref a ∧ (∃ xs, SqT K H a xs) ∧ Iters K F H (Itt K a) ds := by
  cases r with
  | @tup a vs _ h n r =>
    refine ⟨a, rfl, ⟨vs, h⟩, fun H2 k => ?_⟩
    have h2 : SqT K H2 a vs := by
      rcases n with n | n
      · exact ZqT.go h fun o e => k a o e n
      · exact n H2
    refine ⟨⟨vs, h2, by rw [r.length]; exact Nat.le_refl _⟩, fun i d e => ?_⟩
    obtain ⟨x, ex, rx⟩ := r.get e
    refine ⟨⟨vs, x, h2, ex⟩, fun y H3 hy => ?_⟩
    obtain ⟨e3, hy⟩ := hy
    subst e3
    have e4 := hy vs h2
    rw [ex] at e4; cases e4
    exact ⟨Same.refl _, fun F' hF _ => rx.mono hF k⟩
def mitems (f : M D) : M (List D) := mbind f fun x => mopt (itemsD x)
theorem si_seq {f : M D} {tg l : Expr} (hl : SE X W f l) : SI X W (mitems f) tg l := (pi_seq hl).imp fun σ H Rk ⟨F0, ρ, R, o⟩ => by
  refine seqE R o fun x ρ1 v H1 R1 S1 r1 o1 => ?_
  obtain ⟨ds, e, q⟩ := Out.opt o1
  cases x with
  | lst xs =>
    cases e
    obtain ⟨a, rfl, hx, hi⟩ := iters_lst r1
    exact ⟨a, rfl, .inl ⟨hx, q _ H1 R1 S1 hi⟩⟩
  | kls xs =>
    cases e
    obtain ⟨a, rfl, hx, hi⟩ := iters_kls r1
    exact ⟨a, rfl, .inl ⟨hx, q _ H1 R1 S1 hi⟩⟩
  | tup xs =>
    cases e
    obtain ⟨a, rfl, hx, hi⟩ := iters_tup r1
    exact ⟨a, rfl, .inr ⟨hx, q _ H1 R1 S1 hi⟩⟩
  | non => cases e
  | bl b => cases e
  | int b => cases e
  | str b => cases e
  | dik k b => cases e
  | dit k b => cases e
/-- ranges -/
def rangeL (lo : Int) (n : Nat) : List D := (List.range n).map fun (i : Nat) => D.int (lo + (i : Int))
theorem iters_range {K : PySem.W.Frag} {F : Addr → Prop} {H : Hp} (lo : Int) (n : Nat) : Iters K F H (Itr lo n) (rangeL lo n) := fun H2 k => by
  have hl : (rangeL lo n).length = n := by simp [rangeL]
  refine ⟨by show n ≤ _; rw [hl]; exact Nat.le_refl _, fun i d e => ?_⟩
  have hi : i < n := by have := (List.getElem?_eq_some_iff.mp e).1; rw [hl] at this; exact this
  refine ⟨hi, fun x H3 hy => ?_⟩
  obtain ⟨e3, e4⟩ := hy
  subst e3 e4
  unfold rangeL at e
  rw [List.getElem?_map, List.getElem?_range hi] at e
  cases e
  exact ⟨Same.refl _, fun F' _ _ => .int _⟩
def rng1 : List D → Option (List D)
  | [.int n] => if -(2 ^ 62) ≤ n ∧ n < 2 ^ 62 then some (rangeL 0 n.toNat) else none
  | _ => none
def rng2 : List D → Option (List D)
  | [.int a, .int b] => if -(2 ^ 62) ≤ a ∧ a < 2 ^ 62 ∧ -(2 ^ 62) ≤ b ∧ b < 2 ^ 62 then some (rangeL a (b - a).toNat) else none
  | _ => none
def mrng (sem : List D → Option (List D)) (f : M (List D)) : M (List D) := mbind f fun xs => mopt (sem xs)
theorem si_range1 {f : M (List D)} {tg a : Expr} {p pos : Pos} (hg : Gl X "range") (hm : X.mg "range" = none) (ha : SA X W f [a]) (hs : starEach [a] X.env = [(false, eval a X.env)] := by rfl) : SI X W (mrng rng1 f) tg (.Call (.Name "range" p) [a] [] pos) :=
  (pi_range1 hg hm ha hs).imp fun σ H Rk ⟨F0, ρ, R, o⟩ => seqA R o fun xs ρ1 vs H1 R1 S1 r1 o1 => by
    obtain ⟨ds, e, q⟩ := Out.opt o1
    unfold rng1 at e
    split at e
    · split at e
      · rename_i hz; cases e
        cases r1 with
        | cons h r => cases r; rw [h.v_int]; exact ⟨_, rfl, hz.1, hz.2, q _ H1 R1 S1 (iters_range _ _)⟩
      · cases e
    · cases e
theorem si_range2 {f : M (List D)} {tg a b : Expr} {p pos : Pos} (hg : Gl X "range") (hm : X.mg "range" = none) (ha : SA X W f [a, b]) (hs : starEach [a, b] X.env = [(false, eval a X.env), (false, eval b X.env)] := by rfl) (hs2 : starEach [b] X.env = [(false, eval b X.env)] := by rfl) : SI X W (mrng rng2 f) tg (.Call (.Name "range" p) [a, b] [] pos) :=
  (pi_range2 hg hm ha hs hs2).imp fun σ H Rk ⟨F0, ρ, R, o⟩ => seqA R o fun xs ρ1 vs H1 R1 S1 r1 o1 => by
    obtain ⟨ds, e, q⟩ := Out.opt o1
    unfold rng2 at e
    split at e
    · split at e
      · rename_i hz; cases e
        cases r1 with
        | cons h r => cases r with
          | cons h' r => cases r; rw [h.v_int, h'.v_int]; exact ⟨_, _, rfl, hz, q _ H1 R1 S1 (iters_range _ _)⟩
      · cases e
    · cases e
def mrev (f : M D) : M (List D) := mbind f fun x => mopt ((itemsD x).map List.reverse)
/-- reversed(xs) -/
theorem si_rev {f : M D} {tg e : Expr} {p pos : Pos} (hg : Gl X "reversed") (hm : X.mg "reversed" = none) (he : SE X W f e) (hs : starEach [e] X.env = (false, eval e X.env) :: starEach [] X.env := by rfl) : SI X W (mrev f) tg (.Call (.Name "reversed" p) [e] [] pos) :=
  (RT.pi_revA hg hm he hs).imp fun σ H Rk ⟨F0, ρ, R, o⟩ => by
    refine seqE R o fun x ρ1 v H1 R1 S1 r1 o1 => ?_
    obtain ⟨ds, e, q⟩ := Out.opt o1
    have rev : ∀ {α : Type} {l : List α} {i : Nat} {d : α}, l.reverse[i]? = some d → i < l.length ∧ l[l.length - 1 - i]? = some d := fun {α l i d} e => by
      have hi : i < l.length := by have := (List.getElem?_eq_some_iff.mp e).1; rw [List.length_reverse] at this; exact this
      rw [List.getElem?_reverse hi] at e
      exact ⟨hi, e⟩
    cases x with
    | lst xs =>
      cases e
      cases r1 with
      | @lst a vs _ h n r =>
        have n : ¬ Fav F0 ρ1 σ a ∨ ∀ H', SqL X.K H' a vs := .inl n
        have h : SqL X.K H1 a vs := SqL.of h
        refine ⟨a, vs, rfl, .inl ⟨h, q _ H1 R1 S1 fun H2 k => ?_⟩⟩
        have h2 : SqL X.K H2 a vs := by
          rcases n with n | n
          · exact ZqL.go h fun o e => k a o e n
          · exact n H2
        refine ⟨by show vs.length ≤ _; rw [List.length_reverse, r.length]; exact Nat.le_refl _, fun i d e => ?_⟩
        obtain ⟨hi, e⟩ := rev e
        obtain ⟨y, ey, ry⟩ := r.get e
        rw [r.length] at ey hi
        refine ⟨⟨hi, vs, y, h2, ey⟩, fun z H3 hy => ?_⟩
        obtain ⟨e3, hy⟩ := hy
        subst e3
        have e4 := hy vs h2
        rw [ey] at e4; cases e4
        exact ⟨Same.refl _, fun F' hF _ => ry.mono hF k⟩
    | kls xs =>
      cases e
      cases r1 with
      | @kls a vs _ h n r =>
        refine ⟨a, vs, rfl, .inl ⟨h, q _ H1 R1 S1 fun H2 k => ?_⟩⟩
        have h2 : SqL X.K H2 a vs := by
          rcases n with n | n
          · exact ZqL.go h fun o e => k a o e n
          · exact n H2
        refine ⟨by show vs.length ≤ _; rw [List.length_reverse, r.length]; exact Nat.le_refl _, fun i d e => ?_⟩
        obtain ⟨hi, e⟩ := rev e
        obtain ⟨y, ey, ry⟩ := r.get e
        rw [r.length] at ey hi
        refine ⟨⟨hi, vs, y, h2, ey⟩, fun z H3 hy => ?_⟩
        obtain ⟨e3, hy⟩ := hy
        subst e3
        have e4 := hy vs h2
        rw [ey] at e4; cases e4
        exact ⟨Same.refl _, fun F' hF _ => ry.mono hF k⟩
    | tup xs =>
      cases e
      cases r1 with
      | @tup a vs _ h n r =>
        refine ⟨a, vs, rfl, .inr ⟨h, q _ H1 R1 S1 fun H2 k => ?_⟩⟩
        have h2 : SqT X.K H2 a vs := by
          rcases n with n | n
          · exact ZqT.go h fun o e => k a o e n
          · exact n H2
        refine ⟨by show vs.length ≤ _; rw [List.length_reverse, r.length]; exact Nat.le_refl _, fun i d e => ?_⟩
        obtain ⟨hi, e⟩ := rev e
        obtain ⟨y, ey, ry⟩ := r.get e
        rw [r.length] at ey hi
        refine ⟨⟨hi, vs, y, h2, ey⟩, fun z H3 hy => ?_⟩
        obtain ⟨e3, hy⟩ := hy
        subst e3
        have e4 := hy vs h2
        rw [ey] at e4; cases e4
        exact ⟨Same.refl _, fun F' hF _ => ry.mono hF k⟩
    | non => cases e
    | bl b => cases e
    | int b => cases e
    | str b => cases e
    | dik k b => cases e
    | dit k b => cases e

/-! ### for -/
def mfor (t : D → M Unit) (body : M Flow) : List D → M Flow
  | [] => mnx
  | x :: r => fun ρ => match t x ρ with
    | .ok _ ρ1 => match body ρ1 with
      | .ok .nx ρ2 => mfor t body r ρ2
      | .ok .ct ρ2 => mfor t body r ρ2
      | .ok .bk ρ2 => .ok .nx ρ2
      | o => o
    | _ => .bad
def mforS (items : M (List D)) (t : D → M Unit) (body : M Flow) : M Flow := mbind items fun ds => mfor t body ds
theorem ss_for {iter tg : Expr} {body : List Stmt} {f : M (List D)} {js : List Nat} {t : D → M Unit} {g : M Flow} {pos : Pos} (hp : PassesOwn (model X.prog X.w) X.A X.env X.xe) (hc : X.calm = true) (hi : SI X W f tg iter) (hg : SG X js t tg) (hb : SSs X W g body)
    (h : PS X (.For tg iter body [] pos) (tFor (tI X W f) (tG X js t) (tS X W g))) : SS X W (mforS f t g) (.For tg iter body [] pos) := h.imp fun D σ H ⟨F0, ρ, R, o⟩ => by
  refine ⟨F0, ρ, R, (OutS.bind o).imp fun ds ρ1 o1 J H1 R1 S1 it => ?_⟩
  have o1 := OutS.step S1 o1
  refine ⟨fun i m σ2 H2 => m = ds.length - i ∧ i ≤ ds.length ∧ ∃ ρ2, Rl X.K F0 ρ2 σ2 H2 ∧ Stp ρ1 σ H1 ρ2 σ2 H2 ∧ OutS X W F0 ρ2 σ2 H2 D (mfor t g (ds.drop i) ρ2), ⟨_, rfl, Nat.zero_le _, ρ1, R1, Stp.refl _ _ _, o1⟩, ?_⟩
  rintro i m σ2 H2 ⟨rfl, hi, ρ2, R2, S2, o2⟩
  have keep : ∀ a o, H1 a = some o → ¬ Fav F0 ρ1 σ a → H2 a = some o := fun a o e n => S2.keep a o e fun z => n (.inr z)
  obtain ⟨st, gos⟩ := it H2 keep
  by_cases hlt : i < ds.length
  · have e : ds[i]? = some ds[i] := List.getElem?_eq_getElem hlt
    obtain ⟨go, ys⟩ := gos i _ e
    rw [List.drop_eq_getElem_cons hlt] at o2
    refine .inr ⟨go, fun σ' H' => ∃ ρ', Rl X.K F0 ρ' σ' H' ∧ Stp ρ1 σ H1 ρ' σ' H' ∧ OutS X W F0 ρ' σ' H' D (mfor t g (ds.drop (i + 1)) ρ'), fun σ' H' ⟨ρ', a, b, c⟩ => ⟨_, by omega, rfl, hlt, ρ', a, b, c⟩, fun x H3 hy => ?_⟩
    obtain ⟨k3, rep⟩ := ys x H3 hy
    have r := rep (Fav F0 ρ2 σ2) (fun a z => z.elim (fun z => .inl (.inl z)) fun z => (S2.own a z).imp .inr id) (fun a z => R2.fav_alc a z)
    have R3 := R2.same k3
    have S3 : Stp ρ1 σ H1 ρ2 σ2 H3 := S2.trans (Stp.same k3)
    refine ⟨F0, ρ2, _, R3, r, ?_⟩
    unfold mfor at o2
    cases e4 : t ds[i] ρ2 with
    | bad => rw [e4] at o2; exact o2.elim
    | exc x ρ' => rw [e4] at o2; exact o2.elim
    | ok u ρ4 =>
      rw [e4] at o2
      refine fun σ4 H4 R4 S4 _ _ => ⟨F0, ρ4, R4, ?_⟩
      have o2 := OutS.step ((Stp.same k3).trans S4) o2
      simp only at o2
      cases e5 : g ρ4 with
      | bad => rw [e5] at o2; exact o2.elim
      | exc x ρ' => rw [e5] at o2; exact o2
      | ok fl ρ5 =>
        rw [e5] at o2
        cases fl with
        | nx => exact fun σ5 H5 R5 S5 => ⟨ρ5, R5, S3.trans (S4.trans S5), OutS.step S5 o2⟩
        | ct => exact fun σ5 H5 R5 S5 => ⟨ρ5, R5, S3.trans (S4.trans S5), OutS.step S5 o2⟩
        | bk => exact fun σ5 H5 R5 S5 => o2 σ5 H5 R5 S5
        | rt x => exact o2
        | rf x => exact o2
        | rtr x => exact o2
  · have e : i = ds.length := by omega
    subst e
    rw [List.drop_length] at o2
    exact .inl ⟨st, o2 σ2 H2 R2 (Stp.refl _ _ _)⟩

/-! ### while -/
def mwhile (p : M Bool) (body : M Flow) : Nat → M Flow
  | 0 => mbad
  | n + 1 => mbind p fun c => if c = true then fun ρ => match body ρ with
      | .ok .nx ρ2 => mwhile p body n ρ2
      | .ok .ct ρ2 => mwhile p body n ρ2
      | .ok .bk ρ2 => .ok .nx ρ2
      | o => o
    else mnx
theorem ss_while {c : Expr} {body : List Stmt} {p : M Bool} {g : M Flow} {pos : Pos} (n : Nat) (hp : PassesOwn (model X.prog X.w) X.A X.env X.xe) (hc : ST X W p c) (hb : SSs X W g body) : SS X W (mwhile p g n) (.While c body [] pos) := (ps_while hp hc hb).imp fun D σ H ⟨F0, ρ, R, o⟩ => by
  refine ⟨fun m σ2 H2 => ∃ ρ2, Rl X.K F0 ρ2 σ2 H2 ∧ OutS X W F0 ρ2 σ2 H2 D (mwhile p g m ρ2), ⟨n, ρ, R, o⟩, ?_⟩
  rintro m σ2 H2 ⟨ρ2, R2, o2⟩
  cases m with
  | zero => exact o2.elim
  | succ m =>
    refine sqT R2 o2 fun b ρ3 H3 R3 S3 o3 => ?_
    cases b with
    | false => exact iteF (o3 σ2 H3 R3 (Stp.refl _ _ _))
    | true =>
      refine iteT ⟨fun σ' H' => ∃ ρ', Rl X.K F0 ρ' σ' H' ∧ OutS X W F0 ρ' σ' H' D (mwhile p g m ρ'), fun σ' H' ⟨ρ', a, b⟩ => ⟨m, Nat.lt_succ_self _, ρ', a, b⟩, F0, ρ3, R3, ?_⟩
      simp only [if_true] at o3
      cases e5 : g ρ3 with
      | bad => rw [e5] at o3; exact o3.elim
      | exc x ρ' => rw [e5] at o3; exact o3
      | ok fl ρ5 =>
        rw [e5] at o3
        cases fl with
        | nx => exact fun σ5 H5 R5 S5 => ⟨ρ5, R5, OutS.step S5 o3⟩
        | ct => exact fun σ5 H5 R5 S5 => ⟨ρ5, R5, OutS.step S5 o3⟩
        | bk => exact fun σ5 H5 R5 S5 => o3 σ5 H5 R5 S5
        | rt x => exact o3
        | rf x => exact o3
        | rtr x => exact o3
end
end Z

namespace Z
open PySem L2

def W0 : WX := fun _ _ _ _ => False
/-! ### comprehensions -/
def clr (ρ : En) : List Nat → En
  | [] => ρ
  | v :: vs => (clr ρ vs).set v none
def rst (ρ0 ρ : En) : List Nat → En
  | [] => ρ
  | v :: vs => (rst ρ0 ρ vs).set v (ρ0[v]?.getD none)
def free1 (ρ : En) (v : Nat) : Bool := match ρ[v]? with
  | some (some (.own _ _)) => false
  | some (some (.dct _)) => false
  | some (some (.tre _ _)) => false
  | some _ => true
  | none => false
def cloop (t : D → M Unit) (p : M Bool) (g : M D) (vs : List Nat) : List D → List D → M (List D)
  | [], acc => mpure acc
  | x :: r, acc => fun ρ => match t x ρ with
    | .ok _ ρ1 => match p ρ1 with
      | .ok true ρ2 => match g ρ2 with
        | .ok y ρ3 => if acc.length < sizeLine then cloop t p g vs r (acc ++ [y]) (clr ρ3 vs) else .bad
        | _ => .bad
      | .ok false ρ2 => cloop t p g vs r acc (clr ρ2 vs)
      | _ => .bad
    | _ => .bad
def mcomp (vs : List Nat) (items : M (List D)) (t : D → M Unit) (p : M Bool) (g : M D) : M (List D) := mbind items fun ds ρ =>
  if vs.all (free1 ρ) = true then match cloop t p g vs ds [] (clr ρ vs) with
    | .ok acc ρ' => .ok acc (rst ρ ρ' vs)
    | _ => .bad
  else .bad
theorem clr_length (ρ : En) : ∀ vs : List Nat, (clr ρ vs).length = ρ.length
  | [] => rfl
  | v :: vs => by unfold clr; rw [List.length_set, clr_length ρ vs]
theorem rst_length (ρ0 ρ : En) : ∀ vs : List Nat, (rst ρ0 ρ vs).length = ρ.length
  | [] => rfl
  | v :: vs => by unfold rst; rw [List.length_set, rst_length ρ0 ρ vs]
theorem clr_get (ρ : En) : ∀ (vs : List Nat) (i : Nat), (clr ρ vs)[i]? = if i ∈ vs ∧ i < ρ.length then some none else ρ[i]?
  | [], i => by rw [if_neg (by simp)]; rfl
  | v :: vs, i => by
    unfold clr
    rw [List.getElem?_set, clr_length, clr_get ρ vs i]
    by_cases h : v = i
    · subst h
      rw [if_pos rfl]
      by_cases hv : v < ρ.length
      · rw [if_pos hv, if_pos ⟨by simp, hv⟩]
      · rw [if_neg hv, if_neg (fun z => hv z.2), List.getElem?_eq_none (by omega)]
    · rw [if_neg h]
      by_cases hi : i ∈ vs ∧ i < ρ.length
      · rw [if_pos hi, if_pos ⟨List.mem_cons_of_mem _ hi.1, hi.2⟩]
      · rw [if_neg hi, if_neg (fun z => hi ⟨(List.mem_cons.mp z.1).resolve_left (fun e => h e.symm), z.2⟩)]
theorem rst_get (ρ0 ρ : En) : ∀ (vs : List Nat) (i : Nat), (rst ρ0 ρ vs)[i]? = if i ∈ vs ∧ i < ρ.length then some (ρ0[i]?.getD none) else ρ[i]?
  | [], i => by rw [if_neg (by simp)]; rfl
  | v :: vs, i => by
    unfold rst
    rw [List.getElem?_set, rst_length, rst_get ρ0 ρ vs i]
    by_cases h : v = i
    · subst h
      rw [if_pos rfl]
      by_cases hv : v < ρ.length
      · rw [if_pos hv, if_pos ⟨by simp, hv⟩]
      · rw [if_neg hv, if_neg (fun z => hv z.2), List.getElem?_eq_none (by omega)]
    · rw [if_neg h]
      by_cases hi : i ∈ vs ∧ i < ρ.length
      · rw [if_pos hi, if_pos ⟨List.mem_cons_of_mem _ hi.1, hi.2⟩]
      · rw [if_neg hi, if_neg (fun z => hi ⟨(List.mem_cons.mp z.1).resolve_left (fun e => h e.symm), z.2⟩)]
section
variable {K : PySem.W.Frag} {F0 : Addr → Prop} {ρ ρ1 : En} {σ : St} {H H1 : Hp}
/-- own slots of an env that says less -/
theorem Rl.sub {ρ' : En} {σ' : St} (R : Rl K F0 ρ σ H) (hl : ρ'.length = σ'.length) (k : ∀ (i : Nat) (u : SV), ρ'[i]? = some (some u) → ρ[i]? = some (some u) ∧ σ'[i]? = σ[i]?) : Rl K F0 ρ' σ' H ∧ ∀ a, Own ρ' σ' a → Own ρ σ a := by
  have less : ∀ a, Own ρ' σ' a → Own ρ σ a := fun a ⟨j, u, e, s⟩ => by
    obtain ⟨e1, e2⟩ := k j _ e
    exact ⟨j, u, e1, by rw [← e2]; exact s⟩
  have m : ∀ a, Fav F0 ρ' σ' a → Fav F0 ρ σ a ∨ H a = none := fun a z => .inl (z.imp id (less a))
  have m2 : ∀ a o, H a = some o → ¬ Fav F0 ρ σ a → H a = some o := fun _ _ e _ => e
  refine ⟨⟨hl, fun j y e => ?_, fun j u w e => ?_, fun j k' u w a e1 e2 s1 s2 => ?_, R.alc, fun j q e => by obtain ⟨e1, e2⟩ := k j _ e; rw [e2]; exact R.obj j q e1⟩, less⟩
  · obtain ⟨e1, e2⟩ := k j _ e
    obtain ⟨u, f1, r1⟩ := R.dat j y e1
    exact ⟨u, by rw [e2]; exact f1, r1.mono m m2⟩
  · obtain ⟨e1, e2⟩ := k j _ e
    obtain ⟨a, f1, r1, n⟩ := R.own j u w e1
    exact ⟨a, by rw [e2]; exact f1, r1.mono m m2 fun _ _ => rfl, fun c hc => n c (by rw [← e2]; exact hc)⟩
  · obtain ⟨e1, g1⟩ := k j _ e1
    obtain ⟨e2, g2⟩ := k k' _ e2
    exact R.inj j k' u w a e1 e2 (by rw [← g1]; exact s1) (by rw [← g2]; exact s2)
theorem clr_some {vs : List Nat} {i : Nat} {u : SV} (h : (clr ρ vs)[i]? = some (some u)) : i ∉ vs ∧ ρ[i]? = some (some u) := by
  rw [clr_get] at h
  split at h
  · cases h
  · rename_i hn
    refine ⟨fun z => hn ⟨z, ?_⟩, h⟩
    exact (List.getElem?_eq_some_iff.mp h).1
theorem wipe_out {σ : St} {vs : List Nat} {i : Nat} (h : i ∉ vs) : (wipe σ vs)[i]? = σ[i]? := by rw [wipe_get, if_neg (fun z => h z.1)]
theorem rst_out {ρ0 ρ : En} {vs : List Nat} {i : Nat} (h : i ∉ vs) : (rst ρ0 ρ vs)[i]? = ρ[i]? := by rw [rst_get, if_neg (fun z => h z.1)]
/-- into the block -/
theorem Rl.clr (R : Rl K F0 ρ σ H) (vs : List Nat) : Rl K F0 (Z.clr ρ vs) (wipe σ vs) H ∧ ∀ a, Own (Z.clr ρ vs) (wipe σ vs) a → Own ρ σ a :=
  R.sub (by rw [clr_length, wipe_length]; exact R.len) fun i u e => by
    obtain ⟨n, e⟩ := clr_some e
    exact ⟨e, wipe_out n⟩
/-- what is not the frame's is written -/
theorem Rl.acc {p : Addr} {o : HO} (R : Rl K (plus F0 p) ρ σ H) : Rl K (plus F0 p) ρ σ (upd H p o) := by
  have m : ∀ a, Fav (plus F0 p) ρ σ a → Fav (plus F0 p) ρ σ a ∨ H a = none := fun a z => .inl z
  have m2 : ∀ a o', H a = some o' → ¬ Fav (plus F0 p) ρ σ a → upd H p o a = some o' := fun a o' e n => by rw [upd_ne fun z => n (.inl (.inr z))]; exact e
  refine ⟨R.len, fun i x e => ?_, fun i b ds e => ?_, R.inj, fun a h => ?_, R.obj⟩
  · obtain ⟨v, e1, r⟩ := R.dat i x e
    exact ⟨v, e1, r.mono m m2⟩
  · obtain ⟨a, e1, r, n⟩ := R.own i b ds e
    exact ⟨a, e1, r.mono m m2 fun c hc => by rw [upd_ne fun z => n c (by rw [e1]; exact hc) (.inr z)], n⟩
  · by_cases h' : a = p
    · exact ⟨_, by rw [h']; exact upd_same⟩
    · rw [upd_ne h']; exact R.alc a h
/-- the lists that are handed in stay so -/
def IoOk (vs : List Nat) (ρ1 ρe : En) : Prop := (∀ (i : Nat) (ds : List Z.D), i ∉ vs → ρ1[i]? = some (some (.own true ds)) → ∃ ds', ρe[i]? = some (some (.own true ds'))) ∧
  ∀ (i : Nat) (es : List El), i ∉ vs → ρ1[i]? = some (some (.tre true es)) → ∃ es', ρe[i]? = some (some (.tre true es')) ∧ innE es' = innE es
theorem IoOk.refl (vs : List Nat) (ρ : En) : IoOk vs ρ (Z.clr ρ vs) := ⟨fun i ds h e => ⟨ds, by rw [clr_get, if_neg (fun z => h z.1)]; exact e⟩, fun i ds h e => ⟨ds, by rw [clr_get, if_neg (fun z => h z.1)]; exact e, rfl⟩⟩
theorem IoOk.stp {vs : List Nat} {ρ1 ρ2 ρ3 : En} {σ2 σ3 : St} {H2 H3 : Hp} (h : IoOk vs ρ1 ρ2) (S : Stp ρ2 σ2 H2 ρ3 σ3 H3) : IoOk vs ρ1 ρ3 := ⟨fun i ds hi e => by
    obtain ⟨ds', e'⟩ := h.1 i ds hi e
    exact (S.io i ds' e').2, fun i es hi e => by
    obtain ⟨es', e', q⟩ := h.2 i es hi e
    obtain ⟨_, es2, e2, q2⟩ := S.ioT i es' e'
    exact ⟨es2, e2, q2.trans q⟩⟩
theorem IoOk.clr {vs : List Nat} {ρ1 ρ2 : En} (h : IoOk vs ρ1 ρ2) : IoOk vs ρ1 (Z.clr ρ2 vs) := ⟨fun i ds hi e => by
    obtain ⟨ds', e'⟩ := h.1 i ds hi e
    exact ⟨ds', by rw [clr_get, if_neg (fun z => hi z.1)]; exact e'⟩, fun i es hi e => by
    obtain ⟨es', e', q⟩ := h.2 i es hi e
    exact ⟨es', by rw [clr_get, if_neg (fun z => hi z.1)]; exact e', q⟩⟩
theorem rst_at {vs : List Nat} {ρe : En} {j : Nat} {u : SV} (e : (rst ρ1 ρe vs)[j]? = some (some u)) : (j ∈ vs ∧ ρ1[j]? = some (some u)) ∨ (j ∉ vs ∧ ρe[j]? = some (some u)) := by
  by_cases hj : j ∈ vs
  · refine .inl ⟨hj, ?_⟩
    rw [rst_get] at e
    split at e
    · cases e3 : ρ1[j]? with
      | none => rw [e3] at e; cases e
      | some w => rw [e3] at e; exact e
    · rename_i hn
      exact absurd ⟨hj, (List.getElem?_eq_some_iff.mp e).1⟩ hn
  · rw [rst_out hj] at e
    exact .inr ⟨hj, e⟩
theorem free_no {vs : List Nat} (hf : vs.all (free1 ρ1) = true) {i : Nat} (hi : i ∈ vs) {u : SV} (w : u.owned = true) : ρ1[i]? ≠ some (some u) := fun e => by
  have := List.all_eq_true.mp hf i hi
  unfold free1 at this
  rw [e] at this
  cases u with
  | d x => cases w
  | ex x => cases w
  | own b ds => cases this
  | dct x => cases this
  | tre b es => cases this
theorem rst_own {vs : List Nat} {ρe : En} (hf : vs.all (free1 ρ1) = true) {a : Addr} (h : Own (rst ρ1 ρe vs) σ a) : Own ρe (wipe σ vs) a := by
  obtain ⟨j, u, e, s⟩ := h
  rcases rst_at e with ⟨h, e⟩ | ⟨hj, e⟩
  · exact absurd e (free_no hf h (SV.has_owned s))
  · exact ⟨j, u, e, by rw [wipe_out hj]; exact s⟩
/-- out of the block -/
theorem block_end {vs : List Nat} {D : Addr} {ρe : En} {H2 : Hp} (R1 : Rl K F0 ρ1 σ H1) (hD : H1 D = none) (hf : vs.all (free1 ρ1) = true) (R2 : Rl K (plus F0 D) ρe (wipe σ vs) H2)
    (kp : ∀ a o, H1 a = some o → ¬ Own ρ1 σ a → H2 a = some o) (ow : ∀ a, Own ρe (wipe σ vs) a → Own ρ1 σ a ∨ H1 a = none) (tr : ∀ a, H2 a = none → H1 a = none)
    (io : IoOk vs ρ1 ρe) (hl : ρe.length = ρ1.length) :
    Rl K (plus F0 D) (rst ρ1 ρe vs) σ H2 ∧ Stp ρ1 σ H1 (rst ρ1 ρe vs) σ H2 := by
  have fr : ∀ (i : Nat), i ∈ vs → ∀ u : SV, u.owned = true → ρ1[i]? ≠ some (some u) := fun i hi u w e => by
    have := List.all_eq_true.mp hf i hi
    unfold free1 at this
    rw [e] at this
    cases u with
    | d x => cases w
    | ex x => cases w
    | own b ds => cases this
    | dct x => cases this
    | tre b es => cases this
  -- what stands in a slot behind the block
  have at_ : ∀ {j : Nat} {u : SV}, (rst ρ1 ρe vs)[j]? = some (some u) → (j ∈ vs ∧ ρ1[j]? = some (some u)) ∨ (j ∉ vs ∧ ρe[j]? = some (some u)) := fun {j u} e => by
    by_cases hj : j ∈ vs
    · refine .inl ⟨hj, ?_⟩
      rw [rst_get] at e
      split at e
      · cases e3 : ρ1[j]? with
        | none => rw [e3] at e; cases e
        | some w => rw [e3] at e; exact e
      · rename_i hn
        exact absurd ⟨hj, (List.getElem?_eq_some_iff.mp e).1⟩ hn
    · rw [rst_out hj] at e
      exact .inr ⟨hj, e⟩
  have at_o : ∀ {j : Nat} {u : SV}, u.owned = true → (rst ρ1 ρe vs)[j]? = some (some u) → j ∉ vs ∧ ρe[j]? = some (some u) := fun {j u} w e => (at_ e).elim (fun ⟨h, e⟩ => absurd e (fr j h u w)) id
  have oq : ∀ a, Own (rst ρ1 ρe vs) σ a → Own ρe (wipe σ vs) a := fun a ⟨j, u, e, s⟩ => by
    obtain ⟨hj, e⟩ := at_o (SV.has_owned s) e
    exact ⟨j, u, e, by rw [wipe_out hj]; exact s⟩
  have m : ∀ a, Fav (plus F0 D) (rst ρ1 ρe vs) σ a → Fav (plus F0 D) ρe (wipe σ vs) a ∨ H2 a = none := fun a z => .inl (z.imp id (oq a))
  have m2 : ∀ a o', H2 a = some o' → ¬ Fav (plus F0 D) ρe (wipe σ vs) a → H2 a = some o' := fun _ _ e _ => e
  have own2 : ∀ a, Own (rst ρ1 ρe vs) σ a → Own ρ1 σ a ∨ H1 a = none := fun a z => ow a (oq a z)
  have m3 : ∀ a, Fav (plus F0 D) (rst ρ1 ρe vs) σ a → Fav F0 ρ1 σ a ∨ H1 a = none := fun a z => by
    rcases z with (z | z) | z
    · exact .inl (.inl z)
    · rw [z]; exact .inr hD
    · rcases own2 a z with z | z
      · exact .inl (.inr z)
      · exact .inr z
  have m4 : ∀ a o', H1 a = some o' → ¬ Fav F0 ρ1 σ a → H2 a = some o' := fun a o' e n => kp a o' e fun z => n (.inr z)
  refine ⟨⟨by rw [rst_length, hl]; exact R1.len, fun j y e => ?_, fun j u w e => ?_, fun j k u1 u2 a e1 e2 s1 s2 => ?_, R2.alc, fun j q e => ?_⟩, ⟨kp, own2, tr, fun i ds e => ?_, fun i es e => ?_, by rw [rst_length]; exact hl⟩⟩
  · rcases at_ e with ⟨hj, e⟩ | ⟨hj, e⟩
    · obtain ⟨v, f1, r1⟩ := R1.dat j y e
      exact ⟨v, f1, r1.mono m3 m4⟩
    · obtain ⟨v, f1, r1⟩ := R2.dat j y e
      exact ⟨v, by rw [← wipe_out (vs := vs) hj]; exact f1, r1.mono m m2⟩
  · obtain ⟨hj, e⟩ := at_o w e
    obtain ⟨a, f1, r1, n⟩ := R2.own j u w e
    rw [wipe_out hj] at f1 n
    exact ⟨a, f1, r1.mono m m2 fun _ _ => rfl, n⟩
  · obtain ⟨hj, e1⟩ := at_o (SV.has_owned s1) e1
    obtain ⟨hk, e2⟩ := at_o (SV.has_owned s2) e2
    exact R2.inj j k u1 u2 a e1 e2 (by rw [wipe_out hj]; exact s1) (by rw [wipe_out hk]; exact s2)
  · rcases at_ e with ⟨hj, e⟩ | ⟨hj, e⟩
    · exact R1.obj j q e
    · rw [← wipe_out (vs := vs) hj]
      exact R2.obj j q e
  · have hi : i ∉ vs := fun z => fr i z _ rfl e
    obtain ⟨ds', e'⟩ := io.1 i ds hi e
    exact ⟨rfl, ds', by rw [rst_out hi]; exact e'⟩
  · have hi : i ∉ vs := fun z => fr i z _ rfl e
    obtain ⟨es', e', q⟩ := io.2 i es hi e
    exact ⟨rfl, es', by rw [rst_out hi]; exact e', q⟩
end

section
variable {X : Cx} {W : WX}
theorem spts_nil : PTs X [] (tT X W (mpure true)) := ⟨fun pins s σ H Q I ⟨F0, ρ, R, o⟩ => pts_nil.run pins s σ H Q I (o H R (Stp.refl _ _ _))⟩
theorem spts_one {c : Expr} {p : M Bool} (h : ST X W p c) : PTs X [c] (tT X W p) := pts_one h
theorem wipe_wipe {σ : St} {vs : List Nat} : wipe (wipe σ vs) vs = wipe σ vs := by
  apply List.ext_getElem?
  intro j
  rw [wipe_get, wipe_get, wipe_length]
  split <;> rfl
/-- the reading of a comprehension -/
theorem comp_of {f : M (List D)} {t : D → M Unit} {p : M Bool} {g : M D} {vs : List Nat} : ∀ σ H Q, tF X W (mcomp vs f t p g) σ H Q → tLc (tI X W f) (tG X vs t) (tT X W0 p) (tE X W0 g) vs σ H Q := fun σ H Q ⟨F0, ρ, R, o⟩ => by
  refine ⟨F0, ρ, R, (Out.bind o).imp fun ds ρ1 o1 J H1 R1 S1 it D hD => ?_⟩
  split at o1
  · rename_i hf
    split at o1
    · rename_i res ρe er
      -- the block's run
      have RD : Rl X.K (plus F0 D) ρ1 σ (upd H1 D (.lst [])) := R1.more (Same.new hD _) hD ⟨_, upd_same⟩
      obtain ⟨Rb, ownb⟩ := RD.clr vs
      refine ⟨fun i m H2 => m = ds.length - i ∧ i ≤ ds.length ∧ ∃ ρk acc vacc, Rl X.K (plus F0 D) ρk (wipe σ vs) H2 ∧ H2 D = some (.lst vacc) ∧ Reps X.K (Fav (plus F0 D) ρk (wipe σ vs)) H2 acc vacc ∧
        (∀ a o, H1 a = some o → ¬ Own ρ1 σ a → H2 a = some o) ∧ (∀ a, Own ρk (wipe σ vs) a → Own ρ1 σ a ∨ H1 a = none) ∧ (∀ a, H2 a = none → H1 a = none) ∧
        IoOk vs ρ1 ρk ∧ ρk.length = ρ1.length ∧
        cloop t p g vs (ds.drop i) acc ρk = .ok res ρe, ⟨_, rfl, Nat.zero_le _, clr ρ1 vs, [], [], Rb, upd_same, .nil, fun a o e n => ?_, fun a z => .inl (ownb a z), fun a z => ?_, IoOk.refl _ _, clr_length _ _, er⟩, ?_⟩
      · exact Same.new hD _ a o e
      · exact Same.free (Same.new hD _) z
      rintro i m H2 ⟨rfl, hi, ρk, acc, vacc, Rk, hDk, rk, kp, ow, tr, io, ln, run⟩
      have keep : ∀ a o, H1 a = some o → ¬ Fav F0 ρ1 σ a → H2 a = some o := fun a o e n => kp a o e fun z => n (.inr z)
      obtain ⟨st, gos⟩ := it H2 keep
      by_cases hlt : i < ds.length
      · have e : ds[i]? = some ds[i] := List.getElem?_eq_getElem hlt
        obtain ⟨go, ys⟩ := gos i _ e
        rw [List.drop_eq_getElem_cons hlt] at run
        refine .inr ⟨go, fun H' => ∃ ρk acc vacc, Rl X.K (plus F0 D) ρk (wipe σ vs) H' ∧ H' D = some (.lst vacc) ∧ Reps X.K (Fav (plus F0 D) ρk (wipe σ vs)) H' acc vacc ∧
          (∀ a o, H1 a = some o → ¬ Own ρ1 σ a → H' a = some o) ∧ (∀ a, Own ρk (wipe σ vs) a → Own ρ1 σ a ∨ H1 a = none) ∧ (∀ a, H' a = none → H1 a = none) ∧
          IoOk vs ρ1 ρk ∧ ρk.length = ρ1.length ∧
          cloop t p g vs (ds.drop (i + 1)) acc ρk = .ok res ρe, fun H' h => ⟨_, by omega, rfl, hlt, h⟩, fun x H3 hy => ?_⟩
        obtain ⟨k3, rep⟩ := ys x H3 hy
        have fav : ∀ a, Fav (plus F0 D) ρk (wipe σ vs) a → Fav F0 ρ1 σ a ∨ H1 a = none := fun a z => by
          rcases z with (z | z) | z
          · exact .inl (.inl z)
          · rw [z]; exact .inr hD
          · exact (ow a z).imp .inr id
        have r := rep (Fav (plus F0 D) ρk (wipe σ vs)) fav (fun a z => Rk.fav_alc a z)
        have R3 := Rk.same k3
        refine ⟨plus F0 D, ρk, _, R3, r, ?_⟩
        unfold cloop at run
        cases e4 : t ds[i] ρk with
        | bad => rw [e4] at run; cases run
        | exc x ρ' => rw [e4] at run; cases run
        | ok u ρ4 =>
          rw [e4] at run
          simp only at run
          refine fun σ4 H4 R4 S4 w4 k4 => ⟨by rw [w4]; exact wipe_wipe, ?_⟩
          cases e5 : p ρ4 with
          | bad => rw [e5] at run; cases run
          | exc x ρ' => rw [e5] at run; cases run
          | ok b ρ5 =>
            rw [e5] at run
            refine ⟨plus F0 D, ρ4, R4, ?_⟩
            rw [e5]
            intro H5 R5 S5
            -- the state behind a turn: the block's slots forgotten again
            have turn : ∀ {ρ6 : En} {H6 : Hp}, Rl X.K (plus F0 D) ρ6 σ4 H6 → Stp ρ4 σ4 H4 ρ6 σ4 H6 →
                Rl X.K (plus F0 D) (clr ρ6 vs) (wipe σ vs) H6 ∧ Stp ρk (wipe σ vs) H2 ρ6 σ4 H6 ∧ (∀ a, Own (clr ρ6 vs) (wipe σ vs) a → Own ρ6 σ4 a) ∧
                (∀ a o, H1 a = some o → ¬ Own ρ1 σ a → H6 a = some o) ∧ (∀ a, Own (clr ρ6 vs) (wipe σ vs) a → Own ρ1 σ a ∨ H1 a = none) ∧ (∀ a, H6 a = none → H1 a = none) ∧
                IoOk vs ρ1 (clr ρ6 vs) ∧ (clr ρ6 vs).length = ρ1.length := fun {ρ6 H6} R6 S6 => by
              have ST : Stp ρk (wipe σ vs) H2 ρ6 σ4 H6 := (Stp.same k3).trans (S4.trans S6)
              obtain ⟨R7, o7⟩ := R6.clr vs
              rw [w4, wipe_wipe] at R7 o7
              refine ⟨R7, ST, o7, fun a o e n => ?_, fun a z => ?_, fun a z => tr a (ST.trk a z), (io.stp ST).clr, by rw [clr_length, ST.len]; exact ln⟩
              · exact ST.keep a o (kp a o e n) fun z => (ow a z).elim n fun q => by rw [e] at q; cases q
              · rcases ST.own a (o7 a z) with z | z
                · exact ow a z
                · exact .inr (tr a z)
            have notD : ¬ Own ρk (wipe σ vs) D := fun ⟨j, u, e, s⟩ => by
              obtain ⟨_, _, _, n⟩ := Rk.own j u (SV.has_owned s) e
              exact n D s (.inr rfl)
            cases b with
            | false =>
              rw [if_neg (by decide)]
              obtain ⟨R7, ST, o7, a1, a2, a3, a4, a5⟩ := turn R5 S5
              have f7 : ∀ a, Fav (plus F0 D) (clr ρ5 vs) (wipe σ vs) a → Fav (plus F0 D) ρ5 σ4 a ∨ H5 a = none := fun a z => .inl (z.imp id (o7 a))
              exact ⟨clr ρ5 vs, acc, vacc, R7, ST.keep _ _ hDk notD, (ST.reps rk).mono f7 (fun _ _ e _ => e), a1, a2, a3, a4, a5, run⟩
            | true =>
              rw [if_pos rfl]
              simp only at run
              cases e6 : g ρ5 with
              | bad => rw [e6] at run; cases run
              | exc x ρ' => rw [e6] at run; cases run
              | ok y ρ6 =>
                rw [e6] at run
                simp only at run
                refine ⟨plus F0 D, ρ5, R5, ?_⟩
                rw [e6]
                intro v H6 R6 S6 ry
                obtain ⟨R7, ST, o7, a1, a2, a3, a4, a5⟩ := turn R6 (S5.trans S6)
                have hD6 := ST.keep _ _ hDk notD
                by_cases hz : acc.length < sizeLine
                · rw [if_pos hz] at run
                  have f7 : ∀ a, Fav (plus F0 D) (clr ρ6 vs) (wipe σ vs) a → Fav (plus F0 D) ρ6 σ4 a ∨ H6 a = none := fun a z => .inl (z.imp id (o7 a))
                  have rr := (ST.reps rk).append (.cons ry .nil)
                  have k8 : ∀ a o', H6 a = some o' → ¬ Fav (plus F0 D) ρ6 σ4 a → upd H6 D (.lst (vacc ++ [v])) a = some o' := fun a o' e n => by rw [upd_ne fun z => n (.inl (.inr z))]; exact e
                  refine ⟨vacc, hD6, by rw [← rk.length]; exact hz, clr ρ6 vs, acc ++ [y], vacc ++ [v], R7.acc, upd_same, rr.mono f7 k8, fun a o e n => ?_, a2, fun a z => ?_, a4, a5, run⟩
                  · have hne : a ≠ D := fun z => by rw [z, hD] at e; cases e
                    rw [upd_ne hne]; exact a1 a o e n
                  · by_cases hne : a = D
                    · rw [hne]; exact hD
                    · rw [upd_ne hne] at z; exact a3 a z
                · rw [if_neg hz] at run; cases run
      · have e : i = ds.length := by omega
        subst e
        rw [List.drop_length] at run
        cases run
        obtain ⟨R8, S8⟩ := block_end R1 hD hf Rk kp ow tr io ln
        have f8 : ∀ a, Fav (plus F0 D) (rst ρ1 ρe vs) σ a → Fav (plus F0 D) ρe (wipe σ vs) a ∨ H2 a = none := fun a z => by
          exact .inl (z.imp id (rst_own hf))
        exact .inl ⟨st, o1 D vacc H2 R8 (S1.trans S8) (S1.trk D hD) hDk (rk.mono f8 fun _ _ e _ => e)⟩
    · exact o1.elim
  · exact o1.elim
abbrev jsOf (own : List (Str × Nat)) : List Nat := own.map (·.2)
theorem sf_comp {elt tg iter : Expr} {ifs : List Expr} {scope : Scope} {own : List (Str × Nat)} {pos : Pos} {f : M (List D)} {t : D → M Unit} {p : M Bool} {g : M D} (hc : X.calm = true) (hN : X.N.Nodup) (hi : SI X W f tg iter) (ok : BlkOk X.N X.env.scope scope own)
    (hg : ∀ (s : Shared) (H : Hp) (C : Addr) (cl : List (Str × Addr)) (fp : List Addr), SG (X.blk s H scope (compEnvC scope cl C X.env) fp) (own.map (·.2)) t tg) (ht : ∀ (s : Shared) (H : Hp) (C : Addr) (cl : List (Str × Addr)) (fp : List Addr), PTs (X.blk s H scope (compEnvC scope cl C X.env) fp) ifs (tT (X.blk s H scope (compEnvC scope cl C X.env) fp) W0 p))
    (he : ∀ (s : Shared) (H : Hp) (C : Addr) (cl : List (Str × Addr)) (fp : List Addr), SE (X.blk s H scope (compEnvC scope cl C X.env) fp) W0 g elt) (hs : ∀ x, foldedSetIterable iter X.env x = pure x := by intro _; rfl) :
    SF X W (mcomp (own.map (·.2)) f t p g) (.ListComp elt [⟨tg, iter, ifs, 0⟩] scope pos) :=
  (pe_lc (g := tG X (jsOf own) t) (tt := tT X W0 p) (te := tE X W0 g) hc hN hi ok hg ht he hs).imp comp_of
theorem tE_tF {X : Cx} {W : WX} {σ : St} {H : Hp} {Q : VK} {f : M (List D)} (h : tE X W (mbind f fun ds => mpure (.lst ds)) σ H Q) : tF X W f σ H Q := by
  obtain ⟨F0, ρ, R, o⟩ := h
  refine ⟨F0, ρ, R, (Out.bind o).imp fun ds ρ1 o1 p vs H1 R1 S1 hp hv r1 => ?_⟩
  have np : ¬ Own ρ1 σ p := fun ⟨i, u, e, s⟩ => by
    obtain ⟨_, _, _, n⟩ := R1.own i u (SV.has_owned s) e
    exact n p s (.inr rfl)
  have np0 : ¬ F0 p := fun z => by
    obtain ⟨o, e⟩ := R.alc p z
    rw [hp] at e; cases e
  have less : ∀ a, Fav F0 ρ1 σ a → Fav (plus F0 p) ρ1 σ a ∨ H1 a = none := fun a z => .inl (z.imp .inl id)
  exact o1 _ H1 (R1.less fun a z => .inl z) S1 (.lst hv (fun z => z.elim np0 np) (r1.mono less fun _ _ e _ => e))
/-- y = [..] on one line, y a local: as data, or as a list of one's own -/
theorem ss_setLc {i : Nat} {y : Str} {py : Pos} {elt tg iter : Expr} {ifs : List Expr} {scope : Scope} {own : List (Str × Nat)} {pos spos : Pos} {f : M (List D)} {t : D → M Unit} {p : M Bool} {g : M D} (hc : X.calm = true) (hN : X.N.Nodup) (hy : X.N[i]? = some y) (hyl : X.env.scope.names.lookup y = some .local)
    (hsw : swapsWith (.ListComp elt [⟨tg, iter, ifs, 0⟩] scope pos) (some (.Name y py)) spos.line X.env = pure true) (hi : SI X W f tg iter) (ok : BlkOk X.N X.env.scope scope own)
    (hg : ∀ (s : Shared) (H : Hp) (C : Addr) (cl : List (Str × Addr)) (fp : List Addr), SG (X.blk s H scope (compEnvC scope cl C X.env) fp) (own.map (·.2)) t tg) (ht : ∀ (s : Shared) (H : Hp) (C : Addr) (cl : List (Str × Addr)) (fp : List Addr), PTs (X.blk s H scope (compEnvC scope cl C X.env) fp) ifs (tT (X.blk s H scope (compEnvC scope cl C X.env) fp) W0 p))
    (he : ∀ (s : Shared) (H : Hp) (C : Addr) (cl : List (Str × Addr)) (fp : List Addr), SE (X.blk s H scope (compEnvC scope cl C X.env) fp) W0 g elt) (hs : ∀ x, foldedSetIterable iter X.env x = pure x := by intro _; rfl) :
    SS X W (msetF i (mcomp (own.map (·.2)) f t p g)) (.Assign [.Name y py] (.ListComp elt [⟨tg, iter, ifs, 0⟩] scope pos) spos) :=
  (ps_setLc (g := tG X (jsOf own) t) (tt := tT X W0 p) (te := tE X W0 g) hc hN hy hyl hsw hi ok hg ht he hs).imp fun D σ H ⟨F0, ρ, R, o⟩ => comp_of σ H _ (setF_end R o)
theorem ss_setLcD {i : Nat} {y : Str} {py : Pos} {elt tg iter : Expr} {ifs : List Expr} {scope : Scope} {own : List (Str × Nat)} {pos spos : Pos} {f : M (List D)} {t : D → M Unit} {p : M Bool} {g : M D} (hc : X.calm = true) (hN : X.N.Nodup) (hy : X.N[i]? = some y) (hyl : X.env.scope.names.lookup y = some .local)
    (hsw : swapsWith (.ListComp elt [⟨tg, iter, ifs, 0⟩] scope pos) (some (.Name y py)) spos.line X.env = pure true) (hi : SI X W f tg iter) (ok : BlkOk X.N X.env.scope scope own)
    (hg : ∀ (s : Shared) (H : Hp) (C : Addr) (cl : List (Str × Addr)) (fp : List Addr), SG (X.blk s H scope (compEnvC scope cl C X.env) fp) (own.map (·.2)) t tg) (ht : ∀ (s : Shared) (H : Hp) (C : Addr) (cl : List (Str × Addr)) (fp : List Addr), PTs (X.blk s H scope (compEnvC scope cl C X.env) fp) ifs (tT (X.blk s H scope (compEnvC scope cl C X.env) fp) W0 p))
    (he : ∀ (s : Shared) (H : Hp) (C : Addr) (cl : List (Str × Addr)) (fp : List Addr), SE (X.blk s H scope (compEnvC scope cl C X.env) fp) W0 g elt) (hs : ∀ x, foldedSetIterable iter X.env x = pure x := by intro _; rfl) :
    SS X W (mset i (mbind (mcomp (own.map (·.2)) f t p g) fun ds => mpure (.lst ds))) (.Assign [.Name y py] (.ListComp elt [⟨tg, iter, ifs, 0⟩] scope pos) spos) :=
  (ps_setLc (g := tG X (jsOf own) t) (tt := tT X W0 p) (te := tE X W0 g) hc hN hy hyl hsw hi ok hg ht he hs).imp fun D σ H ⟨F0, ρ, R, o⟩ => comp_of σ H _ (tE_tF (set_end R o))
end
end Z

namespace Z
open PySem L2

/-! ### defs as functions -/
inductive RV where
  | d (x : D) | fresh (ds : List D) | ftr (ts : List TL)
inductive FR where
  | ok (x : RV) (outs : En) | exc (e : Exn) (outs : En) | bad
abbrev Fn := List SV → FR
def runBody (n : Nat) (body : M Flow) : Fn := fun as => match body (as.map some ++ List.replicate (n - as.length) none) with
  | .ok .nx ρ => .ok (.d .non) (ρ.take as.length)
  | .ok (.rt x) ρ => .ok (.d x) (ρ.take as.length)
  | .ok (.rf ds) ρ => .ok (.fresh ds) (ρ.take as.length)
  | .ok (.rtr ts) ρ => .ok (.ftr ts) (ρ.take as.length)
  | .ok _ _ => .bad
  | .exc e ρ => .exc e (ρ.take as.length)
  | .bad => .bad
/-- a slot's own thing, lent .. -/
def SV.lend : SV → Option SV
  | .own _ ds => some (.own true ds)
  | .tre _ es => some (.tre true es)
  | _ => none
/-- .. and given back -/
def SV.back : SV → SV → Option SV
  | .own b _, .own true ds => some (.own b ds)
  | .tre b es, .tre true es' => if innE es' = innE es then some (.tre b es') else none
  | _, _ => none
def SV.isIo : SV → Bool
  | .own b _ => b
  | .tre b _ => b
  | _ => false
/-- lent, and changed -/
def SV.like (u u' : SV) : Prop := (∃ ds ds', u = .own true ds ∧ u' = .own true ds') ∨ ∃ es es', u = .tre true es ∧ u' = .tre true es' ∧ innE es' = innE es
theorem SV.like.has {u u' : SV} (h : u.like u') {x : Option (Option V)} {c : Addr} : u'.has x c ↔ u.has x c := by
  rcases h with ⟨ds, ds', rfl, rfl⟩ | ⟨es, es', rfl, rfl, e⟩
  · exact Iff.rfl
  · show ((true = true ∧ _) ∨ c ∈ innE es') ↔ ((true = true ∧ _) ∨ c ∈ innE es)
    rw [e]
theorem SV.like.owned {u u' : SV} (h : u.like u') : u'.owned = true := by
  rcases h with ⟨ds, ds', rfl, rfl⟩ | ⟨es, es', rfl, rfl, e⟩ <;> rfl
theorem SV.lend_io {u w : SV} (h : u.lend = some w) : w.isIo = true ∧ w.owned = true ∧ u.owned = true := by
  cases u <;> first | (cases h; exact ⟨rfl, rfl, rfl⟩) | cases h
theorem SV.lend_has {u w : SV} (h : u.lend = some w) {x : Option (Option V)} {c : Addr} : w.has x c ↔ u.has x c := by
  cases u <;> first | (cases h; exact Iff.rfl) | cases h
theorem SV.lend_hold {K : PySem.W.Frag} {F : Addr → Prop} {H : Hp} {u w : SV} {a : Addr} (h : u.lend = some w) (k : Hold K F H u a) : Hold K F H w a := by
  cases k with
  | own e r => cases h; exact .own e r
  | dik e r => cases h
  | dit e r => cases h
  | tre e r n => cases h; exact .tre e r n
theorem SV.back_of {u w w' u' : SV} (h : u.lend = some w) (b : u.back w' = some u') : w.like w' ∧ u'.owned = true ∧ (∀ {x : Option (Option V)} {c : Addr}, u'.has x c ↔ u.has x c) ∧ (∀ {K : PySem.W.Frag} {F : Addr → Prop} {H : Hp} {a : Addr}, Hold K F H w' a → Hold K F H u' a) ∧
    ((∃ b ds ds', u = .own b ds ∧ u' = .own b ds') ∨ ∃ b es es', u = .tre b es ∧ u' = .tre b es' ∧ innE es' = innE es) := by
  cases u with
  | d x => cases h
  | ex x => cases h
  | dct x => cases h
  | own b' ds =>
    cases h
    cases w' with
    | own c ds' =>
      cases c with
      | false => cases b
      | true =>
        cases b
        refine ⟨.inl ⟨_, _, rfl, rfl⟩, rfl, Iff.rfl, fun k => ?_, .inl ⟨_, _, _, rfl, rfl⟩⟩
        cases k with
        | own e r => exact .own e r
    | d x => cases b
    | ex x => cases b
    | dct x => cases b
    | tre c es => cases c <;> cases b
  | tre b' es =>
    cases h
    cases w' with
    | tre c es' =>
      cases c with
      | false => cases b
      | true =>
        have b : (if innE es' = innE es then some (SV.tre b' es') else none) = some u' := b
        by_cases e : innE es' = innE es
        · rw [if_pos e] at b
          cases b
          refine ⟨.inr ⟨_, _, rfl, rfl, e⟩, rfl, ?_, fun k => ?_, .inr ⟨_, _, _, rfl, rfl, e⟩⟩
          · intro x c
            show ((true = true ∧ _) ∨ c ∈ innE es') ↔ ((true = true ∧ _) ∨ c ∈ innE es)
            rw [e]
          · cases k with
            | tre e r n => exact .tre e r n
        · rw [if_neg e] at b; cases b
    | d x => cases b
    | ex x => cases b
    | dct x => cases b
    | own c ds => cases c <;> cases b
theorem Stp.ioU {ρ ρ' : En} {σ σ' : St} {H H' : Hp} (S : Stp ρ σ H ρ' σ' H') {i : Nat} {u : SV} (e : ρ[i]? = some (some u)) (w : u.isIo = true) : σ'[i]? = σ[i]? ∧ ∃ u', ρ'[i]? = some (some u') ∧ u.like u' := by
  cases u with
  | d x => cases w
  | ex x => cases w
  | dct x => cases w
  | own b ds =>
    have w : b = true := w
    subst w
    obtain ⟨a, ds', e'⟩ := S.io i ds e
    exact ⟨a, _, e', .inl ⟨_, _, rfl, rfl⟩⟩
  | tre b es =>
    have w : b = true := w
    subst w
    obtain ⟨a, es', e', q⟩ := S.ioT i es e
    exact ⟨a, _, e', .inr ⟨_, _, rfl, rfl, q⟩⟩
def Pas (as : List SV) (vs : List V) : Addr → Prop := Own (as.map some) (vs.map some)
structure After (K : PySem.W.Frag) (F : Addr → Prop) (as : List SV) (vs : List V) (H : Hp) (outs : En) (H' : Hp) : Prop where
  keep : ∀ a o, H a = some o → ¬ Pas as vs a → H' a = some o
  trk : ∀ a, H' a = none → H a = none
  io : ∀ (i : Nat) (u : SV), as[i]? = some u → u.owned = true → ∃ (u' : SV) (a : Addr), outs[i]? = some (some u') ∧ u.like u' ∧ vs[i]? = some (.ref a) ∧ Hold K F H' u' a
def FavC (F0 : Addr → Prop) (as : List SV) (vs : List V) : Addr → Prop := fun a => F0 a ∨ Pas as vs a
def OutC (K : PySem.W.Frag) (mg : Str → Option Value) (F0 : Addr → Prop) (as : List SV) (vs : List V) (H : Hp) (Q : VK) (E : XK) : FR → Prop
  | .ok (.d x) outs => ∀ v H', After K (FavC F0 as vs) as vs H outs H' → Rep K (FavC F0 as vs) H' x v → Q v H'
  | .ok (.fresh ds) outs => ∀ p us H', After K (FavC (plus F0 p) as vs) as vs H outs H' → H p = none → H' p = some (.lst us) → Reps K (FavC (plus F0 p) as vs) H' ds us → Q (.ref p) H'
  | .ok (.ftr ts) outs => ∀ p es H', After K (FavC (plusT F0 p es) as vs) as vs H outs H' → (∀ c, c = p ∨ c ∈ innE es → H c = none) → shapeE es = ts → Hold K (FavC (plusT F0 p es) as vs) H' (.tre false es) p → Q (.ref p) H'
  | .exc e outs => ∀ cv d H', After K (FavC F0 as vs) as vs H outs H' → ExRep mg e cv d H' → E cv d H'
  | .bad => False
def spM (K : PySem.W.Frag) (mg : Str → Option Value) (np : Nat) (m : Fn) : Sp := fun vs H Q E => vs.length = np ∧ ∃ as F0, Rl K F0 (as.map some) (vs.map some) H ∧ (∀ (i : Nat) (u : SV), as[i]? = some u → u.owned = true → u.isIo = true) ∧ OutC K mg F0 as vs H Q E (m as)

section
variable {P : Program} {w : World} {K : PySem.W.Frag} {mg : Str → Option Value} {base : Heap}
theorem pad_get {as : List SV} {n : Nat} {i : Nat} {u : SV} (h : (as.map some ++ List.replicate n (none : Option SV))[i]? = some (some u)) : as[i]? = some u := by
  by_cases hi : i < as.length
  · rw [List.getElem?_append_left (by simpa using hi), List.getElem?_map] at h
    cases e : as[i]? with
    | none => rw [e] at h; cases h
    | some a => rw [e] at h; cases h; rfl
  · rw [List.getElem?_append_right (by simpa using hi), List.getElem?_replicate] at h
    split at h <;> cases h
theorem somes_get {α : Type} {as : List α} {i : Nat} {u : α} : (as.map some)[i]? = some (some u) ↔ as[i]? = some u := by
  rw [List.getElem?_map]
  cases as[i]? with
  | none => simp
  | some a => simp
/-- THE RULE of a def: what its body runs to is what a call of it gives -/
theorem fn_ok {x qual : Str} {st : Stmt} {f : Addr} {fd : FuncData} {N ps : List Str} {k : Nat} {body : M Flow} (F : Fun K x qual st f fd) (S : FnScope N ps (defScope st))
    (hb : ∀ (cdv : Value) (A : Around) (outer : List PySem.Env) (s : Shared) (H : Hp) (E : XK), Room k (A.deeper (PyProof.Rows.envOfC qual (defScope st) s.heap.objs.size f cdv)) → SSs (cxOf (L2N.CX P w) P w K mg base N qual (defScope st) f cdv A outer s H E) (fun cls d _ H => E cls d H) body (defBody st)) :
    FnOk P w K mg base (L2N.CX P w) (k + 1) f fd ps (spM K mg ps.length (runBody N.length body)) := by
  obtain ⟨o1, o2, o3, o4, o5, o6, cdv, o7, o8, rfl, lk, code⟩ := F.ex
  refine fn_of lk code S (fun vs H Q E h => h.1) (fun A outer s H vs Q E hr h => ?_)
  obtain ⟨hl, as, F0, R, hio, o⟩ := h
  refine ⟨_, hb cdv A outer s H E hr, ?_⟩
  have hlen : as.length = vs.length := by have := R.len; simpa using this
  have est : start N vs = vs.map some ++ List.replicate (N.length - vs.length) none := rfl
  rw [est]
  obtain ⟨R0, less⟩ := R.sub (ρ' := as.map some ++ List.replicate (N.length - as.length) none) (σ' := vs.map some ++ List.replicate (N.length - vs.length) none) (by simp [hlen]) fun i u e => by
    have e1 := pad_get e
    refine ⟨somes_get.mpr e1, ?_⟩
    have hi : i < vs.length := by rw [← hlen]; exact (List.getElem?_eq_some_iff.mp e1).1
    rw [List.getElem?_append_left (by simpa using hi)]
  have pasD : ∀ a, Pas as vs a → Own (as.map some ++ List.replicate (N.length - as.length) none) (vs.map some ++ List.replicate (N.length - vs.length) none) a := fun a ⟨i, u, e, s⟩ => by
    have hi : i < as.length := by rw [somes_get] at e; exact (List.getElem?_eq_some_iff.mp e).1
    exact ⟨i, u, by rw [List.getElem?_append_left (by simpa using hi)]; exact e, by rw [List.getElem?_append_left (by simpa [← hlen] using hi)]; exact s⟩
  -- what the body's end says to the caller
  have aft : ∀ {G : Addr → Prop} {ρ' : En} {σ' : St} {H' : Hp}, Rl K G ρ' σ' H' → Stp (as.map some ++ List.replicate (N.length - as.length) none) (vs.map some ++ List.replicate (N.length - vs.length) none) H ρ' σ' H' →
      After K (FavC G as vs) as vs H (ρ'.take as.length) H' ∧ ∀ a, FavC G as vs a → Fav G ρ' σ' a := fun {G ρ' σ' H'} R' S' => by
    have ioS : ∀ (i : Nat) (u : SV), as[i]? = some u → u.owned = true → σ'[i]? = (vs.map some)[i]? ∧ ∃ u', ρ'[i]? = some (some u') ∧ u.like u' := fun i u e w => by
      have hi : i < as.length := (List.getElem?_eq_some_iff.mp e).1
      obtain ⟨e1, e2⟩ := S'.ioU (i := i) (u := u) (by rw [List.getElem?_append_left (by simpa using hi)]; exact somes_get.mpr e) (hio i u e w)
      refine ⟨?_, e2⟩
      rw [e1, List.getElem?_append_left (by simpa [← hlen] using hi)]
    have sub : ∀ a, FavC G as vs a → Fav G ρ' σ' a := fun a z => by
      rcases z with z | ⟨i, u, e, s⟩
      · exact .inl z
      · rw [somes_get] at e
        obtain ⟨e1, u', e2, lk⟩ := ioS i u e (SV.has_owned s)
        exact .inr ⟨i, u', e2, by rw [e1]; exact lk.has.mpr s⟩
    refine ⟨⟨fun a o e n => S'.keep a o e fun z => n (less a z), S'.trk, fun i u e w => ?_⟩, sub⟩
    obtain ⟨e1, u', e2, lk⟩ := ioS i u e w
    obtain ⟨a, f1, r, _⟩ := R'.own i u' lk.owned e2
    have hi : i < as.length := (List.getElem?_eq_some_iff.mp e).1
    refine ⟨u', a, by rw [List.getElem?_take_of_lt hi]; exact e2, lk, ?_, r.mono (fun a z => .inl (sub a z)) (fun _ _ e _ => e) fun _ _ => rfl⟩
    rw [e1] at f1
    exact somes_get.mp f1
  refine ⟨F0, _, R0, ?_⟩
  unfold runBody at o
  split at o
  · rename_i ρ' er
    rw [er]
    intro σ' H' R' S'
    obtain ⟨a1, a2⟩ := aft R' S'
    exact o _ H' a1 .non
  · rename_i x ρ' er
    rw [er]
    intro v σ' H' R' S' r
    obtain ⟨a1, a2⟩ := aft R' S'
    exact o v H' a1 (r.mono (fun a z => .inl (a2 a z)) fun _ _ e _ => e)
  · rename_i ds ρ' er
    rw [er]
    intro p us σ' H' R' S' hp hv r
    obtain ⟨a1, a2⟩ := aft R' S'
    have hp : H p = none := by
      rcases hp with ⟨i, u, e, s⟩ | hp
      · exfalso
        have e1 := pad_get e
        obtain ⟨f1, u', f2, lk⟩ := S'.ioU e (hio i u e1 (SV.has_owned s))
        obtain ⟨_, _, _, n⟩ := R'.own i u' lk.owned f2
        exact n p (by rw [f1]; exact lk.has.mpr s) (.inr rfl)
      · exact hp
    exact o p us H' a1 hp hv (r.mono (fun a z => .inl (a2 a z)) fun _ _ e _ => e)
  · rename_i ts ρ' er
    rw [er]
    intro p es σ' H' R' S' hp hsh r
    obtain ⟨a1, a2⟩ := aft R' S'
    have hp : ∀ c, c = p ∨ c ∈ innE es → H c = none := fun c hc => by
      rcases hp c hc with ⟨i, u, e, s⟩ | hp
      · exfalso
        have e1 := pad_get e
        obtain ⟨f1, u', f2, lk⟩ := S'.ioU e (hio i u e1 (SV.has_owned s))
        obtain ⟨_, _, _, n⟩ := R'.own i u' lk.owned f2
        exact n c (by rw [f1]; exact lk.has.mpr s) (.inr hc)
      · exact hp
    exact o p es H' a1 hp hsh (r.mono (fun a z => .inl (a2 a z)) (fun _ _ e _ => e) fun _ _ => rfl)
  · exact o.elim
  · rename_i e ρ' er
    rw [er]
    intro cv d σ' H' R' S' x
    obtain ⟨a1, a2⟩ := aft R' S'
    exact o cv d H' a1 x
  · exact o.elim
end

/-! ### calls -/
/-- an argument: data; a slot's own list, lent; a new list that is dropped behind the call -/
inductive Arg where
  | d (f : M D) | io (j : Nat) | tmp (f : M (List D))
def mlend (j : Nat) : M SV := fun ρ => match ρ[j]? with
  | some (some u) => match u.lend with
    | some w => .ok w ρ
    | none => .bad
  | _ => .bad
def margs : List Arg → M (List SV)
  | [] => mpure []
  | .d f :: r => mbind f fun x => mbind (margs r) fun xs => mpure (.d x :: xs)
  | .tmp f :: r => mbind f fun ds => mbind (margs r) fun xs => mpure (.own true ds :: xs)
  | .io j :: r => mbind (mlend j) fun _ => mbind (margs r) fun xs => mbind (mlend j) fun w => mpure (w :: xs)
def wback : List Arg → En → En → Option En
  | [], _, ρ => some ρ
  | .d _ :: as, _ :: os, ρ => wback as os ρ
  | .tmp _ :: as, _ :: os, ρ => wback as os ρ
  | .io j :: as, some w :: os, ρ => match ρ[j]? with
    | some (some u) => match u.back w with
      | some u' => wback as os (ρ.set j (some u'))
      | none => none
    | _ => none
  | _, _, _ => none
def ios : List Arg → List Nat
  | [] => []
  | .d _ :: as => ios as
  | .tmp _ :: as => ios as
  | .io j :: as => j :: ios as
def mcall (m : Fn) (args : List Arg) : M D := mbind (margs args) fun svs ρ => match m svs with
  | .ok (.d x) outs => match wback args outs ρ with
    | some ρ' => .ok x ρ'
    | none => .bad
  | .exc e outs => match wback args outs ρ with
    | some ρ' => .exc e ρ'
    | none => .bad
  | _ => .bad
def mcallF (m : Fn) (args : List Arg) : M (List D) := mbind (margs args) fun svs ρ => match m svs with
  | .ok (.fresh ds) outs => match wback args outs ρ with
    | some ρ' => .ok ds ρ'
    | none => .bad
  | .exc e outs => match wback args outs ρ with
    | some ρ' => .exc e ρ'
    | none => .bad
  | _ => .bad
/-- Hs: the heap ahead of the arguments -/
inductive ArgsR (K : PySem.W.Frag) (F0 : Addr → Prop) (ρ : En) (σ : St) (H Hs : Hp) : List Arg → List SV → List V → Prop
  | nil : ArgsR K F0 ρ σ H Hs [] [] []
  | d {f : M D} {x : D} {v : V} {as : List Arg} {svs : List SV} {vs : List V} : Rep K (Fav F0 ρ σ) H x v → ArgsR K F0 ρ σ H Hs as svs vs → ArgsR K F0 ρ σ H Hs (.d f :: as) (.d x :: svs) (v :: vs)
  | io {j : Nat} {u w : SV} {a : Addr} {as : List Arg} {svs : List SV} {vs : List V} : ρ[j]? = some (some u) → u.lend = some w → σ[j]? = some (some (.ref a)) → ArgsR K F0 ρ σ H Hs as svs vs → ArgsR K F0 ρ σ H Hs (.io j :: as) (w :: svs) (.ref a :: vs)
  | tmp {f : M (List D)} {ds : List D} {us : List V} {a : Addr} {as : List Arg} {svs : List SV} {vs : List V} : F0 a → Hs a = none → H a = some (.lst us) → Reps K (Fav F0 ρ σ) H ds us → (∀ (i : Nat) (u : SV), svs[i]? = some u → ¬ u.has (vs.map some)[i]? a) → ArgsR K F0 ρ σ H Hs as svs vs → ArgsR K F0 ρ σ H Hs (.tmp f :: as) (.own true ds :: svs) (.ref a :: vs)
section
variable {K : PySem.W.Frag} {F0 : Addr → Prop} {ρ ρ1 ρ2 : En} {σ : St} {H H1 H' Hs : Hp}
theorem ArgsR.len {args : List Arg} {svs : List SV} {vs : List V} (r : ArgsR K F0 ρ σ H Hs args svs vs) : svs.length = vs.length ∧ args.length = vs.length := by
  induction r with
  | nil => exact ⟨rfl, rfl⟩
  | d _ _ ih => exact ⟨by simp [ih.1], by simp [ih.2]⟩
  | io _ _ _ _ ih => exact ⟨by simp [ih.1], by simp [ih.2]⟩
  | tmp _ _ _ _ _ _ ih => exact ⟨by simp [ih.1], by simp [ih.2]⟩
theorem ArgsR.weak {Hq : Hp} (k : ∀ a, Hs a = none → Hq a = none) {args : List Arg} {svs : List SV} {vs : List V} (r : ArgsR K F0 ρ σ H Hs args svs vs) : ArgsR K F0 ρ σ H Hq args svs vs := by
  induction r with
  | nil => exact .nil
  | d h _ ih => exact .d h ih
  | io h1 h2 h3 _ ih => exact .io h1 h2 h3 ih
  | tmp h1 h2 h3 h4 h5 _ ih => exact .tmp h1 (k _ h2) h3 h4 h5 ih
theorem ArgsR.at_d {args : List Arg} {svs : List SV} {vs : List V} (r : ArgsR K F0 ρ σ H Hs args svs vs) : ∀ {i : Nat} {x : D}, svs[i]? = some (.d x) → ∃ v, vs[i]? = some v ∧ Rep K (Fav F0 ρ σ) H x v := by
  induction r with
  | nil => intro i x e; simp at e
  | d h _ ih =>
    intro i x e
    cases i with
    | zero => simp at e; subst e; exact ⟨_, rfl, h⟩
    | succ i => simpa using ih (i := i) (by simpa using e)
  | io _ h2 _ _ ih =>
    intro i x e
    cases i with
    | zero =>
      have e := Option.some.inj e
      have := (SV.lend_io h2).2.1
      rw [e] at this; cases this
    | succ i => simpa using ih (i := i) (by simpa using e)
  | tmp _ _ _ _ _ _ ih =>
    intro i x e
    cases i with
    | zero => simp at e
    | succ i => simpa using ih (i := i) (by simpa using e)
/-- an argument that is lent: a slot's list, or a new one -/
theorem ArgsR.at_io {args : List Arg} {svs : List SV} {vs : List V} (r : ArgsR K F0 ρ σ H Hs args svs vs) : ∀ {i : Nat} {w : SV}, svs[i]? = some w → w.owned = true → w.isIo = true ∧ ∃ a, vs[i]? = some (.ref a) ∧
    ((∃ j u, args[i]? = some (.io j) ∧ ρ[j]? = some (some u) ∧ u.lend = some w ∧ σ[j]? = some (some (.ref a))) ∨ (F0 a ∧ Hs a = none ∧ Hold K (Fav F0 ρ σ) H w a ∧ (∃ ds, w = .own true ds) ∧ ∃ f, args[i]? = some (.tmp f))) := by
  induction r with
  | nil => intro i w e; simp at e
  | d h _ ih =>
    intro i w e o
    cases i with
    | zero => simp at e; subst e; cases o
    | succ i => simpa using ih (i := i) (by simpa using e) o
  | @io j u w' a as svs vs h1 h2 h3 _ ih =>
    intro i w e o
    cases i with
    | zero =>
      have e := Option.some.inj e
      subst e
      exact ⟨(SV.lend_io h2).1, a, rfl, .inl ⟨j, u, rfl, h1, h2, h3⟩⟩
    | succ i => simpa using ih (i := i) (by simpa using e) o
  | @tmp f ds' us a as svs vs h1 h2 h3 h4 h5 _ ih =>
    intro i w e o
    cases i with
    | zero =>
      have e := Option.some.inj e
      subst e
      exact ⟨rfl, a, rfl, .inr ⟨h1, h2, .own h3 h4, ⟨_, rfl⟩, f, rfl⟩⟩
    | succ i => simpa using ih (i := i) (by simpa using e) o
/-- whose it is -/
theorem ArgsR.who {args : List Arg} {svs : List SV} {vs : List V} (r : ArgsR K F0 ρ σ H Hs args svs vs) {i : Nat} {w : SV} {c : Addr} (e : svs[i]? = some w) (s : w.has (vs.map some)[i]? c) :
    (∃ j u, args[i]? = some (.io j) ∧ ρ[j]? = some (some u) ∧ u.has σ[j]? c) ∨ (F0 c ∧ Hs c = none ∧ vs[i]? = some (.ref c) ∧ ∃ f, args[i]? = some (.tmp f)) := by
  obtain ⟨_, a, h2, h⟩ := r.at_io e (SV.has_owned s)
  have h2' : (vs.map some)[i]? = some (some (.ref a)) := somes_get.mpr h2
  rw [h2'] at s
  rcases h with ⟨j, u, g1, g2, g3, g4⟩ | ⟨h1, h3, _, ⟨ds, rfl⟩, f, hf⟩
  · exact .inl ⟨j, u, g1, g2, by rw [g4]; exact (SV.lend_has g3).mp s⟩
  · have := own_has s
    cases this
    exact .inr ⟨h1, h3, h2, f, hf⟩
theorem ios_mem {j : Nat} : ∀ {as : List Arg} {i : Nat}, as[i]? = some (.io j) → j ∈ ios as := by
  intro as
  induction as with
  | nil => intro i e; simp at e
  | cons a as ih =>
    intro i e
    cases i with
    | zero => simp at e; subst e; simp [ios]
    | succ i =>
      have := ih (i := i) (by simpa using e)
      cases a with
      | d f => exact this
      | tmp f => exact this
      | io j'' => exact List.mem_cons_of_mem _ this
/-- two places of one lent list are one -/
theorem ArgsR.inj (R : Rl K F0 ρ σ H) {args : List Arg} {svs : List SV} {vs : List V} (r : ArgsR K F0 ρ σ H Hs args svs vs) : (ios args).Nodup → ∀ {i k : Nat} {u w : SV} {c : Addr}, svs[i]? = some u → svs[k]? = some w → u.has (vs.map some)[i]? c → w.has (vs.map some)[k]? c → i = k := by
  induction r with
  | nil => intro _ i k u w c e; simp at e
  | d h _ ih =>
    intro nd i k u w c e1 e2 s1 s2
    cases i with
    | zero =>
      have e1 := Option.some.inj e1
      subst e1
      exact absurd s1 (no_has rfl)
    | succ i => cases k with
      | zero =>
        have e2 := Option.some.inj e2
        subst e2
        exact absurd s2 (no_has rfl)
      | succ k => exact congrArg (· + 1) (ih nd (by simpa using e1) (by simpa using e2) (by simpa using s1) (by simpa using s2))
  | @io j u0 w0 a' as svs vs h1 h2 h3 r ih =>
    intro nd i k u w c e1 e2 s1 s2
    have nd : (j :: ios as).Nodup := nd
    rw [List.nodup_cons] at nd
    have no : ∀ {k : Nat} {w : SV} {c : Addr}, svs[k]? = some w → w.has (vs.map some)[k]? c → w0.has (some (some (.ref a'))) c → False := fun {k w c} e s s0 => by
      have s0 : u0.has σ[j]? c := by rw [h3]; exact (SV.lend_has h2).mp s0
      rcases r.who e s with ⟨j2, u2, g1, g2, g3⟩ | ⟨g1, _⟩
      · have ej := R.inj j j2 u0 u2 c h1 g2 s0 g3
        subst ej
        exact nd.1 (ios_mem g1)
      · obtain ⟨_, _, _, n⟩ := R.own j u0 (SV.has_owned s0) h1
        exact n c s0 g1
    cases i with
    | zero => cases k with
      | zero => rfl
      | succ k =>
        have e1 := Option.some.inj e1
        subst e1
        exact (no (k := k) (by simpa using e2) (by simpa using s2) s1).elim
    | succ i => cases k with
      | zero =>
        have e2 := Option.some.inj e2
        subst e2
        exact (no (k := i) (by simpa using e1) (by simpa using s1) s2).elim
      | succ k => exact congrArg (· + 1) (ih nd.2 (by simpa using e1) (by simpa using e2) (by simpa using s1) (by simpa using s2))
  | @tmp f ds' us a' as svs vs h1 h2 h3 h4 h5 r ih =>
    intro nd i k u w c e1 e2 s1 s2
    have eqa : ∀ {u : SV}, some (SV.own true ds') = some u → u.has (some (some (.ref a'))) c → c = a' := fun {u} e s => by
      cases e
      have := own_has s
      cases this; rfl
    cases i with
    | zero => cases k with
      | zero => rfl
      | succ k =>
        have ec := eqa e1 s1
        subst ec
        exact (h5 k w (by simpa using e2) (by simpa using s2)).elim
    | succ i => cases k with
      | zero =>
        have ec := eqa e2 s2
        subst ec
        exact (h5 i u (by simpa using e1) (by simpa using s1)).elim
      | succ k => exact congrArg (· + 1) (ih nd (by simpa using e1) (by simpa using e2) (by simpa using s1) (by simpa using s2))
theorem ArgsR.no_ex {args : List Arg} {svs : List SV} {vs : List V} (r : ArgsR K F0 ρ σ H Hs args svs vs) : ∀ {i : Nat} {a : Addr}, svs[i]? = some (.ex a) → False := by
  induction r with
  | nil => intro i a e; simp at e
  | d _ _ ih =>
    intro i a e
    cases i with
    | zero => simp at e
    | succ i => exact ih (i := i) (a := a) (by simpa using e)
  | tmp _ _ _ _ _ _ ih =>
    intro i a e
    cases i with
    | zero => simp at e
    | succ i => exact ih (i := i) (a := a) (by simpa using e)
  | io _ h2 _ _ ih =>
    intro i a e
    cases i with
    | zero =>
      have e := Option.some.inj e
      have := (SV.lend_io h2).2.1
      rw [e] at this; cases this
    | succ i => exact ih (i := i) (a := a) (by simpa using e)
/-- what the callee asks -/
theorem call_in {args : List Arg} {svs : List SV} {vs : List V} (R : Rl K F0 ρ σ H) (r : ArgsR K F0 ρ σ H Hs args svs vs) (nd : (ios args).Nodup) :
    (∀ a, Pas svs vs a → Own ρ σ a ∨ (F0 a ∧ Hs a = none)) ∧ Rl K (fun a => Fav F0 ρ σ a ∧ ¬ Pas svs vs a) (svs.map some) (vs.map some) H ∧ ∀ a, FavC (fun a => Fav F0 ρ σ a ∧ ¬ Pas svs vs a) svs vs a ↔ Fav F0 ρ σ a := by
  have pas : ∀ a, Pas svs vs a → Own ρ σ a ∨ (F0 a ∧ Hs a = none) := fun a ⟨i, w, e, s⟩ => by
    rcases r.who (somes_get.mp e) s with ⟨j, u, _, h1, h3⟩ | ⟨h1, h2, _⟩
    · exact .inl ⟨j, u, h1, h3⟩
    · exact .inr ⟨h1, h2⟩
  have pasF : ∀ a, Pas svs vs a → Fav F0 ρ σ a := fun a z => (pas a z).elim .inr fun z => .inl z.1
  have iff : ∀ a, FavC (fun a => Fav F0 ρ σ a ∧ ¬ Pas svs vs a) svs vs a ↔ Fav F0 ρ σ a := fun a =>
    ⟨fun z => z.elim (fun z => z.1) fun z => pasF a z, fun z => (Classical.em (Pas svs vs a)).elim .inr fun n => .inl ⟨z, n⟩⟩
  have m : ∀ a, Fav (fun a => Fav F0 ρ σ a ∧ ¬ Pas svs vs a) (svs.map some) (vs.map some) a → Fav F0 ρ σ a ∨ H a = none := fun a z => .inl ((iff a).mp z)
  have m2 : ∀ a o, H a = some o → ¬ Fav F0 ρ σ a → H a = some o := fun _ _ e _ => e
  refine ⟨pas, ⟨by simp [r.len.1], fun i x e => ?_, fun i w ow e => ?_, fun i k u w c e1 e2 s1 s2 => ?_, fun a z => R.fav_alc a z.1, fun j q e => (r.no_ex (somes_get.mp e)).elim⟩, iff⟩
  · have e := somes_get.mp e
    obtain ⟨v, e1, h⟩ := r.at_d e
    exact ⟨v, somes_get.mpr e1, h.mono m m2⟩
  · have e' := somes_get.mp e
    obtain ⟨_, a, h2, h⟩ := r.at_io e' ow
    refine ⟨a, somes_get.mpr h2, ?_, fun c hc z => z.2 ⟨i, w, e, hc⟩⟩
    rcases h with ⟨j, u, _, h1, h4, h3⟩ | ⟨_, _, h, _, _⟩
    · obtain ⟨a', f1, h, n⟩ := R.own j u (SV.lend_io h4).2.2 h1
      rw [h3] at f1; cases f1
      exact (SV.lend_hold h4 h).mono m m2 fun _ _ => rfl
    · exact h.mono m m2 fun _ _ => rfl
  · exact r.inj R nd (somes_get.mp e1) (somes_get.mp e2) s1 s2
/-- the env behind the call -/
theorem wback_at {F : Addr → Prop} : ∀ {args : List Arg} {svs : List SV} {vs : List V} {outs ρ ρ2 : En}, ArgsR K F0 ρ1 σ H Hs args svs vs → (ios args).Nodup → (∀ j, j ∈ ios args → ρ[j]? = ρ1[j]?) → wback args outs ρ = some ρ2 →
    (∀ (i : Nat) (u : SV), svs[i]? = some u → u.owned = true → ∃ (u' : SV) (a : Addr), outs[i]? = some (some u') ∧ u.like u' ∧ vs[i]? = some (.ref a) ∧ Hold K F H' u' a) →
    ρ2.length = ρ.length ∧ ∀ j u', ρ2[j]? = some u' → (j ∉ ios args ∧ ρ[j]? = some u') ∨ (j ∈ ios args ∧ ∃ u w w' q a, u' = some q ∧ ρ[j]? = some (some u) ∧ u.lend = some w ∧ u.back w' = some q ∧ σ[j]? = some (some (.ref a)) ∧ Hold K F H' q a) := by
  intro args svs vs outs ρ ρ2 r
  induction r generalizing outs ρ ρ2 with
  | nil =>
    intro _ _ e _
    cases e
    exact ⟨rfl, fun j u h => .inl ⟨by simp [ios], h⟩⟩
  | @d f x v as svs vs h _ ih =>
    intro nd same e io
    cases outs with
    | nil => cases e
    | cons o os =>
      exact ih (outs := os) nd same e fun i u e w => by
        obtain ⟨u', a, h1, h2, h3, h4⟩ := io (i + 1) u (by simpa using e) w
        exact ⟨u', a, by simpa using h1, h2, by simpa using h3, h4⟩
  | @tmp f ds' us a as svs vs _ _ _ _ _ _ ih =>
    intro nd same e io
    cases outs with
    | nil => cases e
    | cons o os =>
      exact ih (outs := os) nd same e fun i u e w => by
        obtain ⟨u', a, h1, h2, h3, h4⟩ := io (i + 1) u (by simpa using e) w
        exact ⟨u', a, by simpa using h1, h2, by simpa using h3, h4⟩
  | @io j u w a as svs vs h1 h2 h3 _ ih =>
    intro nd same e io
    have nd : (j :: ios as).Nodup := nd
    rw [List.nodup_cons] at nd
    obtain ⟨w', a', g1, g2, g3, g4⟩ := io 0 w rfl (SV.lend_io h2).2.1
    have g3 : some (V.ref a) = some (V.ref a') := g3
    cases g3
    cases outs with
    | nil => cases g1
    | cons o os =>
      have g1 : some o = some (some w') := g1
      cases g1
      have ej : ρ[j]? = some (some u) := by rw [same j (by simp [ios])]; exact h1
      unfold wback at e
      rw [ej] at e
      simp only at e
      cases eb : u.back w' with
      | none => rw [eb] at e; cases e
      | some q =>
        rw [eb] at e
        simp only at e
        have hj : j < ρ.length := (List.getElem?_eq_some_iff.mp ej).1
        obtain ⟨l1, l2⟩ := ih (outs := os) nd.2 (fun j2 h => by
            have : j2 ≠ j := fun z => by subst z; exact nd.1 h
            rw [List.getElem?_set_ne (Ne.symm this)]
            exact same j2 (by simp [ios, h])) e fun i u e w => by
          obtain ⟨u', a, h1, h2, h3, h4⟩ := io (i + 1) u (by simpa using e) w
          exact ⟨u', a, by simpa using h1, h2, by simpa using h3, h4⟩
        refine ⟨by rw [l1, List.length_set], fun j2 u' hu => ?_⟩
        rcases l2 j2 u' hu with ⟨k1, k2⟩ | ⟨k1, u3, w3, w3', q3, a3, k2, k3, k4⟩
        · by_cases hj2 : j2 = j
          · subst hj2
            rw [List.getElem?_set_self hj] at k2
            have k2 := (Option.some.inj k2).symm
            exact .inr ⟨by simp [ios], u, w, w', q, a, k2, ej, h2, eb, h3, (SV.back_of h2 eb).2.2.2.1 g4⟩
          · rw [List.getElem?_set_ne (Ne.symm hj2)] at k2
            exact .inl ⟨by simp [ios, hj2, k1], k2⟩
        · have hj2 : j2 ≠ j := fun z => by subst z; exact nd.1 k1
          rw [List.getElem?_set_ne (Ne.symm hj2)] at k3
          exact .inr ⟨by simp [ios, k1], u3, w3, w3', q3, a3, k2, k3, k4⟩
/-- behind the call: from the heap ahead of the arguments -/
theorem call_out {G : Addr → Prop} {ρs : En} {args : List Arg} {svs : List SV} {vs : List V} {outs : En} (R : Rl K F0 ρ σ H) (S : Stp ρs σ Hs ρ σ H) (r : ArgsR K F0 ρ σ H Hs args svs vs) (nd : (ios args).Nodup) (wb : wback args outs ρ = some ρ2)
    (hG2 : ∀ a, G a → F0 a ∨ H a = none) (hG3 : ∀ a, G a → ∃ o, H' a = some o)
    {F : Addr → Prop} (hF : ∀ a, Fav G ρ σ a → F a) (A : After K F svs vs H outs H') : Rl K G ρ2 σ H' ∧ Stp ρs σ Hs ρ2 σ H' ∧ ∀ a, Own ρ2 σ a → Own ρ σ a := by
  obtain ⟨pas, _, _⟩ := call_in R r nd
  obtain ⟨ln, sl⟩ := wback_at r nd (fun _ _ => rfl) wb A.io
  have back : ∀ {j : Nat} {q : SV}, ρ2[j]? = some (some q) → q.owned = true → ∃ u, ρ[j]? = some (some u) ∧ ∀ {x : Option (Option V)} {c : Addr}, q.has x c → u.has x c := fun {j q} e w => by
    rcases sl j _ e with ⟨_, e⟩ | ⟨_, u, w, w', q', a, e1, e2, e3, e4, _⟩
    · exact ⟨q, e, id⟩
    · cases e1
      exact ⟨u, e2, fun s => (SV.back_of e3 e4).2.2.1.mp s⟩
  have ow : ∀ a, Own ρ2 σ a → Own ρ σ a := fun a ⟨j, q, e, s⟩ => by
    obtain ⟨u, e', k⟩ := back e (SV.has_owned s)
    exact ⟨j, u, e', k s⟩
  have pasF : ∀ a, Pas svs vs a → Fav F0 ρ σ a := fun a z => (pas a z).elim .inr fun z => .inl z.1
  have mem : ∀ (j : Nat) (u : SV) (c : Addr), ρ[j]? = some (some u) → u.has σ[j]? c → Pas svs vs c → j ∈ ios args := fun j u c e s ⟨i, w, e2, s2⟩ => by
    rcases r.who (somes_get.mp e2) s2 with ⟨j2, u2, g1, h1, h3⟩ | ⟨h1, _⟩
    · have ej := R.inj j j2 u u2 c e h1 s h3
      subst ej
      exact ios_mem g1
    · obtain ⟨_, _, _, n⟩ := R.own j u (SV.has_owned s) e
      exact (n c s h1).elim
  have m : ∀ a, Fav G ρ2 σ a → Fav F0 ρ σ a ∨ H a = none := fun a z => by
    rcases z with z | z
    · exact (hG2 a z).imp .inl id
    · exact .inl (.inr (ow a z))
  have kp : ∀ a o, H a = some o → ¬ Fav F0 ρ σ a → H' a = some o := fun a o e n => A.keep a o e fun z => n (pasF a z)
  have f2 : ∀ a, Fav G ρ2 σ a → F a ∨ H' a = none := fun a z => .inl (hF a (z.imp id (ow a)))
  -- what a lent slot was
  have iov : ∀ {j : Nat} {u : SV}, ρ[j]? = some (some u) → u.isIo = true → ∃ u', ρ2[j]? = some (some u') ∧ u.like u' := fun {j u} e w => by
    have hj : j < ρ2.length := by rw [ln]; exact (List.getElem?_eq_some_iff.mp e).1
    have e2 : ρ2[j]? = some ρ2[j] := List.getElem?_eq_getElem hj
    rcases sl j _ e2 with ⟨_, e3⟩ | ⟨_, u2, w2, w2', q, a, e4, e3, e5, e6, _⟩
    · rw [e] at e3
      refine ⟨u, by rw [e2]; exact e3.symm, ?_⟩
      cases u with
      | d x => cases w
      | ex x => cases w
      | dct x => cases w
      | own b ds => have w : b = true := w; subst w; exact .inl ⟨_, _, rfl, rfl⟩
      | tre b es => have w : b = true := w; subst w; exact .inr ⟨_, _, rfl, rfl, rfl⟩
    · rw [e] at e3; cases e3
      refine ⟨q, by rw [e2, e4], ?_⟩
      rcases (SV.back_of e5 e6).2.2.2.2 with ⟨b, ds, ds', rfl, rfl⟩ | ⟨b, es, es', rfl, rfl, eq⟩
      · have w : b = true := w; subst w; exact .inl ⟨_, _, rfl, rfl⟩
      · have w : b = true := w; subst w; exact .inr ⟨_, _, rfl, rfl, eq⟩
  refine ⟨⟨by rw [ln]; exact R.len, fun j x e => ?_, fun j q w e => ?_, fun j k q1 q2 c e1 e2 s1 s2 => ?_, hG3, fun j q e => by
    rcases sl j _ e with ⟨_, e⟩ | ⟨_, u, w, w', q', a, e1, e2, e3, e4, _⟩
    · exact R.obj j q e
    · cases e1
      have := (SV.back_of e3 e4).2.1
      cases this⟩, ⟨fun a o e n => ?_, fun a z => S.own a (ow a z), fun a z => S.trk a (A.trk a z), fun j ds e => ⟨rfl, ?_⟩, fun j es e => ⟨rfl, ?_⟩, by rw [ln]; exact S.len⟩, ow⟩
  · rcases sl j _ e with ⟨_, e⟩ | ⟨_, u, w, w', q', a, e1, e2, e3, e4, _⟩
    · obtain ⟨v, e1, h⟩ := R.dat j x e
      exact ⟨v, e1, h.mono m kp⟩
    · cases e1
      have := (SV.back_of e3 e4).2.1
      cases this
  · rcases sl j _ e with ⟨nj, e⟩ | ⟨_, u, w0, w', q', a, e1, e2, e3, e4, e5, h⟩
    · obtain ⟨a, e1, h, n⟩ := R.own j q w e
      refine ⟨a, e1, h.mono m kp fun c hc => ?_, fun c hc z => (hG2 c z).elim (n c hc) fun z => ?_⟩
      · obtain ⟨o, ho⟩ := h.alc hc
        have hc' : q.has σ[j]? c := by rw [e1]; exact hc
        rw [ho]
        exact A.keep c o ho fun z => nj (mem j q c e hc' z)
      · rw [e1] at hc
        obtain ⟨o, ho⟩ := h.alc hc
        rw [z] at ho; cases ho
    · cases e1
      obtain ⟨a', f1, h', n⟩ := R.own j u (SV.lend_io e3).2.2 e2
      have hq : ∀ {x : Option (Option V)} {c : Addr}, q.has x c ↔ u.has x c := (SV.back_of e3 e4).2.2.1
      refine ⟨a, e5, h.mono f2 (fun _ _ e _ => e) fun _ _ => rfl, fun c hc z => (hG2 c z).elim (n c (hq.mp hc)) fun z => ?_⟩
      have hc' : u.has (some (some (.ref a'))) c := by rw [← f1]; exact hq.mp hc
      obtain ⟨o, ho⟩ := h'.alc hc'
      rw [z] at ho; cases ho
  · obtain ⟨u1, g1, k1⟩ := back e1 (SV.has_owned s1)
    obtain ⟨u2, g2, k2⟩ := back e2 (SV.has_owned s2)
    exact R.inj j k u1 u2 c g1 g2 (k1 s1) (k2 s2)
  · refine A.keep a o (S.keep a o e n) fun z => ?_
    rcases pas a z with z | ⟨_, z⟩
    · exact (S.own a z).elim n fun q => by rw [e] at q; cases q
    · rw [e] at z; cases z
  · obtain ⟨_, ds1, e1⟩ := S.io j ds e
    obtain ⟨u', e2, lk⟩ := iov e1 rfl
    rcases lk with ⟨_, ds', h1, rfl⟩ | ⟨_, _, h1, _⟩
    · exact ⟨ds', e2⟩
    · cases h1
  · obtain ⟨_, es1, e1, q1⟩ := S.ioT j es e
    obtain ⟨u', e2, lk⟩ := iov e1 rfl
    rcases lk with ⟨_, _, h1, _⟩ | ⟨_, es', h1, rfl, q2⟩
    · cases h1
    · cases h1
      exact ⟨es', e2, q2.trans q1⟩
end

section
variable {X : Cx} {W : WX}
def gAr (X : Cx) (F0 : Addr → Prop) (ρ : En) (σ : St) (H : Hp) (args : List Arg) (Q : List V → Hp → Prop) (svs : List SV) (ρ' : En) : Prop :=
  ∀ vs F1 H', (∀ a, F0 a → F1 a) → (∀ a, F1 a → F0 a ∨ H a = none) → Rl X.K F1 ρ' σ H' → Stp ρ σ H ρ' σ H' → ArgsR X.K F1 ρ' σ H' H args svs vs → Q vs H'
def tArgs (X : Cx) (W : WX) (args : List Arg) : TA := fun σ H Q => ∃ F0 ρ, Rl X.K F0 ρ σ H ∧ Out X W F0 ρ σ H (gAr X F0 ρ σ H args Q) (margs args ρ)
abbrev SAr (X : Cx) (W : WX) (args : List Arg) (es : List Expr) : Prop := PA X es (tArgs X W args)
theorem Out.more {α : Type} {F0 F1 : Addr → Prop} {ρ : En} {σ : St} {H : Hp} {good : α → En → Prop} {r : Rs α} (k : ∀ a, F0 a → F1 a) (o : Out X W F0 ρ σ H good r) : Out X W F1 ρ σ H good r := by
  cases r with
  | ok x ρ' => exact o
  | exc e ρ' => exact fun cv d H' R T x => o cv d H' (R.less k) T x
  | bad => exact o
theorem sar_nil : SAr X W [] [] := pa_nil.imp fun σ H Q ⟨F0, ρ, R, o⟩ => o [] F0 H (fun _ z => z) (fun _ z => .inl z) R (Stp.refl _ _ _) .nil
theorem seqAr {α : Type} {F0 : Addr → Prop} {ρ : En} {σ : St} {H : Hp} {good : α → En → Prop} {args : List Arg} {g : List SV → M α} {Q : List V → Hp → Prop} (R : Rl X.K F0 ρ σ H) (o : Out X W F0 ρ σ H good (mbind (margs args) g ρ))
    (k : ∀ svs ρ1 vs F1 H1, (∀ a, F0 a → F1 a) → (∀ a, F1 a → F0 a ∨ H a = none) → Rl X.K F1 ρ1 σ H1 → Stp ρ σ H ρ1 σ H1 → ArgsR X.K F1 ρ1 σ H1 H args svs vs → Out X W F0 ρ σ H good (g svs ρ1) → Q vs H1) : tArgs X W args σ H Q :=
  ⟨F0, ρ, R, o.bind.imp fun svs ρ1 o1 vs F1 H1 k1 k2 R1 S1 r1 => k svs ρ1 vs F1 H1 k1 k2 R1 S1 r1 o1⟩
theorem sar_d {f : M D} {args : List Arg} {e : Expr} {es : List Expr} (ha : SE X W f e) (hr : SAr X W args es) (hs : starEach (e :: es) X.env = (false, eval e X.env) :: starEach es X.env := by rfl) : SAr X W (.d f :: args) (e :: es) :=
  (pa_cons ha hr hs).imp fun σ H Q ⟨F0, ρ, R, o⟩ => seqE R o fun x ρ1 v H1 R1 S1 r1 o1 => seqAr R1 o1 fun svs ρ2 vs F1 H2 k1 k2 R2 S2 r2 o2 => by
    refine o2 _ F1 H2 k1 (fun a z => (k2 a z).imp id (S1.trk a)) R2 (S1.trans S2) (.d (r1.mono (fun a z => ?_) fun a o e n => S2.keep a o e fun z => n (.inr z)) (r2.weak S1.trk))
    rcases z with z | z
    · exact (k2 a z).imp .inl id
    · exact (S2.own a z).imp .inr id
theorem lend_at {α : Type} {F0 : Addr → Prop} {ρ ρ0 : En} {σ : St} {H H0 : Hp} {good : α → En → Prop} {i : Nat} {k : SV → M α} {F1 : Addr → Prop} {H1 : Hp} (R : Rl X.K F1 ρ σ H1) (o : Out X W F0 ρ0 σ H0 good (mbind (mlend i) k ρ)) :
    ∃ a u w, ρ[i]? = some (some u) ∧ u.lend = some w ∧ σ[i]? = some (some (.ref a)) ∧ Out X W F0 ρ0 σ H0 good (k w ρ) := by
  unfold mbind mlend at o
  split at o
  · rename_i x ρ' e
    split at e
    · rename_i u e1
      split at e
      · rename_i w ew
        cases e
        obtain ⟨a, e2, _⟩ := R.own i u (SV.lend_io ew).2.2 e1
        exact ⟨a, u, _, e1, ew, e2, o⟩
      · cases e
    · cases e
  · rename_i e
    split at e
    · split at e <;> cases e
    · cases e
  · exact o.elim
theorem sar_io {j : Nat} {args : List Arg} {e : Expr} {es : List Expr} (ha : PE X e (tVar j)) (hr : SAr X W args es) (hs : starEach (e :: es) X.env = (false, eval e X.env) :: starEach es X.env := by rfl) : SAr X W (.io j :: args) (e :: es) :=
  (pa_cons ha hr hs).imp fun σ H Q ⟨F0, ρ, R, o⟩ => by
    obtain ⟨a, u, w, e0, ew, e1, o1⟩ := lend_at (H1 := H) (H := H) R o
    refine ⟨_, e1, seqAr R o1 fun svs ρ1 vs F1 H1 k1 k2 R1 S1 r1 o2 => ?_⟩
    obtain ⟨a', u', w', f0, fw, f1, o3⟩ := lend_at (H := H) R1 o2
    rw [e1] at f1; cases f1
    exact o3 _ F1 H1 k1 k2 R1 S1 (.io f0 fw e1 r1)
theorem sar_tmp {f : M (List D)} {args : List Arg} {e : Expr} {es : List Expr} (ha : SF X W f e) (hr : SAr X W args es) (hs : starEach (e :: es) X.env = (false, eval e X.env) :: starEach es X.env := by rfl) : SAr X W (.tmp f :: args) (e :: es) :=
  (pa_cons ha hr hs).imp fun σ H Q ⟨F0, ρ, R, o⟩ => seqF R o fun ds ρ1 p us H1 R1 S1 hp hv r1 o1 => by
    have o1 := Out.more (F1 := plus F0 p) (fun a z => .inl z) o1
    refine seqAr R1 o1 fun svs ρ2 vs F1 H2 k1 k2 R2 S2 r2 o2 => ?_
    have np : ¬ Own ρ1 σ p := fun ⟨i, u, e, s⟩ => by
      obtain ⟨_, _, _, n⟩ := R1.own i u (SV.has_owned s) e
      exact n p s (.inr rfl)
    refine o2 _ F1 H2 (fun a z => k1 a (.inl z)) (fun a z => ?_) R2 (S1.trans S2) (.tmp (k1 p (.inr rfl)) hp (S2.keep _ _ hv np) (r1.mono (fun a z => ?_) fun a o e n => S2.keep a o e fun z => n (.inr z)) (fun i es e s => ?_) (r2.weak S1.trk))
    · rcases k2 a z with (z | z) | z
      · exact .inl z
      · rw [z]; exact .inr hp
      · exact .inr (S1.trk a z)
    · rcases z with z | z
      · exact (k2 a z).imp .inl id
      · exact (S2.own a z).imp .inr id
    · rcases r2.who e s with ⟨j, u, _, g1, g2⟩ | ⟨_, g2, _⟩
      · obtain ⟨_, _, _, n⟩ := R2.own j u (SV.has_owned g2) g1
        exact n p g2 (k1 p (.inr rfl))
      · rw [hv] at g2; cases g2
/-! a call -/
section
variable {m : Fn} {args : List Arg} {k np : Nat} {f : Addr} {fd : FuncData} {ps : List Str} {x : Str} {p pos : Pos} {e : Expr} {es : List Expr}
theorem alc_go {F0 : Addr → Prop} {H H' : Hp} (h : ∀ a, F0 a → ∃ o, H a = some o) (t : ∀ a, H' a = none → H a = none) : ∀ a, F0 a → ∃ o, H' a = some o := fun a z => by
  obtain ⟨o, e⟩ := h a z
  cases e2 : H' a with
  | none => have := t a e2; rw [e] at this; cases this
  | some o' => exact ⟨o', rfl⟩
theorem call_of (nd : (ios args).Nodup) (hnp : args.length = np) : ∀ σ H Q, tE X W (mcall m args) σ H Q → tCallS (spM X.K X.mg np m) (WE W) (tArgs X W args) σ H Q := fun σ H Q ⟨F0, ρ, R, o⟩ => by
  refine seqAr R o fun svs ρ1 vs F1 H1 k1 k2 R1 S1 r1 o1 => ?_
  obtain ⟨pas, Rc, iff⟩ := call_in R1 r1 nd
  refine ⟨by rw [← r1.len.2]; exact hnp, svs, _, Rc, fun i u e w => (r1.at_io e w).1, ?_⟩
  cases em : m svs with
  | bad => rw [em] at o1; exact o1.elim
  | exc ex outs =>
    rw [em] at o1
    simp only at o1
    cases ew : wback args outs ρ1 with
    | none => rw [ew] at o1; exact o1.elim
    | some ρ2 =>
      rw [ew] at o1
      intro cv d H' A xr
      obtain ⟨R2, S2, _⟩ := call_out R1 S1 r1 nd ew (G := F1) (fun _ z => .inl z) (alc_go R1.alc A.trk) (fun a z => (iff a).mpr z) A
      exact o1 cv d H' (R2.less k1) S2 xr
  | ok rv outs =>
    rw [em] at o1
    cases rv with
    | fresh ds => exact o1.elim
    | ftr ds => exact o1.elim
    | d y =>
      simp only at o1
      cases ew : wback args outs ρ1 with
      | none => rw [ew] at o1; exact o1.elim
      | some ρ2 =>
        rw [ew] at o1
        intro v H' A ry
        obtain ⟨R2, S2, ow⟩ := call_out R1 S1 r1 nd ew (G := F1) (fun _ z => .inl z) (alc_go R1.alc A.trk) (fun a z => (iff a).mpr z) A
        exact o1 v H' (R2.less k1) S2 (ry.mono (fun a z => .inl ((iff a).mpr (z.imp (k1 a) (ow a)))) fun _ _ e _ => e)
theorem callF_of (nd : (ios args).Nodup) (hnp : args.length = np) : ∀ σ H Q, tF X W (mcallF m args) σ H Q → tCallS (spM X.K X.mg np m) (WE W) (tArgs X W args) σ H Q := fun σ H Q ⟨F0, ρ, R, o⟩ => by
  refine seqAr R o fun svs ρ1 vs F1 H1 k1 k2 R1 S1 r1 o1 => ?_
  obtain ⟨pas, Rc, iff⟩ := call_in R1 r1 nd
  refine ⟨by rw [← r1.len.2]; exact hnp, svs, _, Rc, fun i u e w => (r1.at_io e w).1, ?_⟩
  cases em : m svs with
  | bad => rw [em] at o1; exact o1.elim
  | exc ex outs =>
    rw [em] at o1
    simp only at o1
    cases ew : wback args outs ρ1 with
    | none => rw [ew] at o1; exact o1.elim
    | some ρ2 =>
      rw [ew] at o1
      intro cv d H' A xr
      obtain ⟨R2, S2, _⟩ := call_out R1 S1 r1 nd ew (G := F1) (fun _ z => .inl z) (alc_go R1.alc A.trk) (fun a z => (iff a).mpr z) A
      exact o1 cv d H' (R2.less k1) S2 xr
  | ok rv outs =>
    rw [em] at o1
    cases rv with
    | d y => exact o1.elim
    | ftr ds => exact o1.elim
    | fresh ds =>
      simp only at o1
      cases ew : wback args outs ρ1 with
      | none => rw [ew] at o1; exact o1.elim
      | some ρ2 =>
        rw [ew] at o1
        intro p us H' A hp hv ry
        have iff2 : ∀ a, Fav (plus F1 p) ρ1 σ a → FavC (plus (fun a => Fav F1 ρ1 σ a ∧ ¬ Pas svs vs a) p) svs vs a := fun a z => by
          rcases z with (z | z) | z
          · exact ((iff a).mpr (.inl z)).imp .inl id
          · exact .inl (.inr z)
          · exact ((iff a).mpr (.inr z)).imp .inl id
        obtain ⟨R2, S2, ow⟩ := call_out R1 S1 r1 nd ew (G := plus F1 p) (fun a z => z.imp id fun q => by rw [q]; exact hp) (fun a z => z.elim (fun z => alc_go R1.alc A.trk a z) fun q => ⟨.lst us, by rw [q]; exact hv⟩) iff2 A
        exact o1 p us H' (R2.less fun a z => z.imp (k1 a) id) S2 (S1.trk p hp) hv (ry.mono (fun a z => .inl (iff2 a (z.imp (fun z => z.imp (k1 a) id) (ow a)))) fun _ _ e _ => e)
theorem se_call (G : FnOk X.prog X.w X.K X.mg X.base (L2N.CX X.prog X.w) k f fd ps (spM X.K X.mg np m)) (hr : Room k X.A) (hg : Gl X x) (hm : X.mg x = some (.ref f)) (hk : PySem.W.keepIn X.K (.ref f) = true) (hb : Binds X.K fd ps []) (tk : L2N.Takes X W)
    (ha : SAr X W args (e :: es)) (nd : (ios args).Nodup := by first | decide | simp [ios]) (hnp : args.length = np := by rfl) (hdb : (x == ("__debug__" : Str)) = false := by decide) (he : starEach (e :: es) X.env = (false, eval e X.env) :: starEach es X.env := by rfl) (hpl : (backTo pos (starEach es X.env)).any (·.1) = false := by rfl) :
    SE X W (mcall m args) (.Call (.Name x p) (e :: es) [] pos) := (pe_callS G hr hg hm hk hb (fun σ => L2N.passAt tk σ) ha hdb he hpl).imp (call_of nd hnp)
theorem sf_call (G : FnOk X.prog X.w X.K X.mg X.base (L2N.CX X.prog X.w) k f fd ps (spM X.K X.mg np m)) (hr : Room k X.A) (hg : Gl X x) (hm : X.mg x = some (.ref f)) (hk : PySem.W.keepIn X.K (.ref f) = true) (hb : Binds X.K fd ps []) (tk : L2N.Takes X W)
    (ha : SAr X W args (e :: es)) (nd : (ios args).Nodup := by first | decide | simp [ios]) (hnp : args.length = np := by rfl) (hdb : (x == ("__debug__" : Str)) = false := by decide) (he : starEach (e :: es) X.env = (false, eval e X.env) :: starEach es X.env := by rfl) (hpl : (backTo pos (starEach es X.env)).any (·.1) = false := by rfl) :
    SF X W (mcallF m args) (.Call (.Name x p) (e :: es) [] pos) := (pe_callS G hr hg hm hk hb (fun σ => L2N.passAt tk σ) ha hdb he hpl).imp (callF_of nd hnp)
end
end
end Z

namespace Z
open PySem L2
section
variable {X : Cx} {W : WX} {pos : Pos}
/-! ### list + list, list * int: new lists -/
def Sem2F (X : Cx) (r : R2) (sem : D → D → Option (List D)) : Prop := ∀ {F : Addr → Prop} {H : Hp} {x y : D} {ds : List D} {v u : V} {Q : VK}, (∀ a, F a → ∃ o, H a = some o) → Bor X.K F H x v → Bor X.K F H y u → sem x y = some ds →
  (∀ p vs, H p = none → Reps X.K F H ds vs → Q (.ref p) (upd H p (.lst vs))) → r v u H Q
def mop2F (sem : D → D → Option (List D)) : Opd → Opd → M (List D)
  | .val f, .val g => mbind f fun x => mbind g fun y => mopt (sem x y)
  | .slot i, .val g => mbind (mget i) fun _ => mbind g fun y => mbind (mget i) fun x => mopt (sem x y)
  | .val f, .slot j => mbind f fun x => mbind (mget j) fun y => mopt (sem x y)
  | .slot i, .slot j => mbind (mget i) fun x => mbind (mget j) fun y => mopt (sem x y)
theorem op2F_of {r : R2} {sem : D → D → Option (List D)} (h : Sem2F X r sem) {p q : Opd} : ∀ σ H Q, tF X W (mop2F sem p q) σ H Q → tOp r (tO X W p) (tO X W q) σ H Q := fun σ H Q ⟨F0, ρ, R, o⟩ =>
  opd2 (k := fun x y => mopt (sem x y)) (good := gF X F0 ρ σ H Q) R (by cases p <;> cases q <;> exact o) fun x y ρ2 v u H2 R2 S2 b1 b2 o2 => by
    obtain ⟨z, e, q⟩ := Out.opt o2
    refine h R2.fav_alc b1 b2 e fun p vs hp r3 => ?_
    have k := Same.new hp (.lst vs)
    exact q p vs _ (R2.more k hp ⟨_, upd_same⟩) (S2.trans (Stp.same k)) (S2.trk p hp) upd_same (r3.more k hp)
theorem sf_op {op : Operator} {r : R2} {sem : D → D → Option (List D)} {p q : Opd} {a b : Expr} (ho : OpR X (binaryOp op) r) (h : Sem2F X r sem) (ha : SO X W p a) (hb : SO X W q b) : SF X W (mop2F sem p q) (.BinOp a op b pos) := (pe_op ho ha hb).imp (op2F_of h)
def catL : D → D → Option (List D)
  | .lst xs, .lst ys => if xs.length + ys.length ≤ sizeLine then some (xs ++ ys) else none
  | _, _ => none
theorem sem_cat : Sem2F X rCat catL := fun {F H x y ds v u Q} al rx ry e q => by
  unfold catL at e
  split at e
  · split at e
    · rename_i hz; cases e
      obtain ⟨a, vs, rfl, ha, ra⟩ := rx.v_lstH
      obtain ⟨b, us, rfl, hb, rb⟩ := ry.v_lstH
      exact ⟨a, b, vs, us, rfl, rfl, ha, hb, by rw [← ra.length, ← rb.length]; exact hz, fun p hp => q p _ hp (ra.append rb)⟩
    · cases e
  · cases e
theorem Reps.rep {K : PySem.W.Frag} {F : Addr → Prop} {H : Hp} {ds : List D} {vs : List V} (r : Reps K F H ds vs) : ∀ k : Nat, Reps K F H (List.replicate k ds).flatten (List.replicate k vs).flatten
  | 0 => .nil
  | k + 1 => by
    rw [List.replicate_succ, List.replicate_succ, List.flatten_cons, List.flatten_cons]
    exact r.append (Reps.rep r k)
def repL : D → D → Option (List D)
  | .lst xs, .int k => if -(2 ^ 63) ≤ k ∧ k < 2 ^ 63 ∧ xs.length * k.toNat ≤ sizeLine then some (List.replicate k.toNat xs).flatten else none
  | _, _ => none
theorem sem_rep : Sem2F X rRep repL := fun {F H x y ds v u Q} al rx ry e q => by
  unfold repL at e
  split at e
  · split at e
    · rename_i hz; cases e
      obtain ⟨a, vs, rfl, ha, ra⟩ := rx.v_lstH
      exact ⟨a, _, vs, rfl, ry.v_int, ha, hz.1, hz.2.1, by rw [← ra.length]; exact hz.2.2, fun p hp => q p _ hp (ra.rep _)⟩
    · cases e
  · cases e

/-! ### slices -/
def tPo (X : Cx) (W : WX) (f : M (Option Int)) : TO := fun σ H Q => ∃ F0 ρ, Rl X.K F0 ρ σ H ∧ Out X W F0 ρ σ H (fun o ρ' => ∀ H', Rl X.K F0 ρ' σ H' → Stp ρ σ H ρ' σ H' → Q o H') (f ρ)
abbrev SPo (X : Cx) (W : WX) (f : M (Option Int)) (e : Option Expr) : Prop := PO X e (tPo X W f)
theorem _root_.L2.PO.imp {X : Cx} {e : Option Expr} {t t' : TO} (h : PO X e t) (k : ∀ σ H Q, t' σ H Q → t σ H Q) : PO X e t' := ⟨fun pins s σ H Q I q => h.run pins s σ H Q I (k _ _ _ q)⟩
def toI : D → Option Int
  | .int i => some i
  | _ => none
theorem spo_none : SPo X W (mpure none) none := po_none.imp fun σ H Q ⟨F0, ρ, R, o⟩ => o H R (Stp.refl _ _ _)
theorem spo_some {f : M D} {e : Expr} (h : SE X W f e) : SPo X W (mbind f fun x => mbind (mopt (toI x)) fun i => mpure (some i)) (some e) := (po_some h).imp fun σ H Q ⟨F0, ρ, R, o⟩ =>
  seqE R o fun x ρ1 v H1 R1 S1 r1 o1 => by
    obtain ⟨i, e, q⟩ := Out.opt (Out.bind o1)
    cases x with
    | int n => cases e; exact ⟨_, r1.v_int, q H1 R1 S1⟩
    | non => cases e
    | bl b => cases e
    | str b => cases e
    | tup b => cases e
    | lst b => cases e
    | kls b => cases e
    | dik k b => cases e
    | dit k b => cases e
def cutG {α : Type} (xs : List α) (lo hi : Option Int) : List α := (xs.drop (HT.sIx xs.length 0 lo)).take (HT.sIx xs.length xs.length hi - HT.sIx xs.length 0 lo)
theorem reps_cut {K : PySem.W.Frag} {F : Addr → Prop} {H : Hp} {ds : List D} {vs : List V} (r : Reps K F H ds vs) (lo hi : Option Int) : Reps K F H (cutG ds lo hi) (cutV vs lo hi) := by
  unfold cutG cutV
  rw [r.length]
  exact (r.drop _).take _
theorem seqPo {α : Type} {F0 : Addr → Prop} {ρ : En} {σ : St} {H : Hp} {good : α → En → Prop} {f : M (Option Int)} {g : Option Int → M α} {Q : Option Int → Hp → Prop} (R : Rl X.K F0 ρ σ H) (o : Out X W F0 ρ σ H good (mbind f g ρ))
    (k : ∀ x ρ1 H1, Rl X.K F0 ρ1 σ H1 → Stp ρ σ H ρ1 σ H1 → Out X W F0 ρ1 σ H1 good (g x ρ1) → Q x H1) : tPo X W f σ H Q :=
  ⟨F0, ρ, R, o.bind.imp fun x ρ1 o1 H1 R1 S1 => k x ρ1 H1 R1 S1 (o1.step S1)⟩
/-- of a tuple -/
def cutT (x : D) (lo hi : Option Int) : Option D := match x with
  | .tup xs => some (.tup (cutG xs lo hi))
  | _ => none
def cutLL (x : D) (lo hi : Option Int) : Option (List D) := match x with
  | .lst xs => some (cutG xs lo hi)
  | .kls xs => some (cutG xs lo hi)
  | _ => none
def mcut (p : Opd) (l u : M (Option Int)) : M D := match p with
  | .val f => mbind f fun x => mbind l fun lo => mbind u fun hi => mopt (cutT x lo hi)
  | .slot i => mbind (mget i) fun _ => mbind l fun lo => mbind u fun hi => mbind (mget i) fun x => mopt (cutT x lo hi)
theorem cut_end {F : Addr → Prop} {H : Hp} {xs : List D} {v : V} {lo hi : Option Int} {Q : VK} (al : ∀ a, F a → ∃ o, H a = some o) (r : Rep X.K F H (.tup xs) v) (q : ∀ w H', Same H H' → Rep X.K F H' (.tup (cutG xs lo hi)) w → Q w H') : rSlA X.K v lo hi H Q := by
  obtain ⟨a, vs, rfl, h, rs⟩ := r.v_tup
  refine ⟨a, vs, rfl, h, fun z => ?_, fun _ p hp => q _ _ (Same.new hp _) (rep_newT al hp (reps_cut rs lo hi))⟩
  have e : cutG xs lo hi = xs := by
    unfold cutG
    rw [rs.length, z.1, z.2]
    simp
    rw [← rs.length]; simp
  rw [e] at q
  exact q _ _ (Same.refl _) r
theorem se_cut {p : Opd} {l u : M (Option Int)} {e : Expr} {lo hi : Option Expr} {p2 : Pos} (ha : SO X W p e) (hl : SPo X W l lo) (hu : SPo X W u hi) : SE X W (mcut p l u) (.Subscript e (.Slice lo hi none p2) pos) := (pe_slice sl_tupA ha hl hu).imp fun σ H Q ⟨F0, ρ, R, o⟩ => by
  cases p with
  | val f =>
    refine seqE R o fun x ρ1 v H1 R1 S1 r1 o1 => seqPo R1 o1 fun lo ρ2 H2 R2 S2 o2 => seqPo R2 o2 fun hi ρ3 H3 R3 S3 o3 => ?_
    cases x with
    | tup xs => exact cut_end R3.fav_alc (S3.rep (S2.rep r1)) fun w H' k r => o3 w H' (R3.same k) (S1.trans (S2.trans (S3.trans (Stp.same k)))) r
    | non => exact o3.elim
    | bl b => exact o3.elim
    | int b => exact o3.elim
    | str b => exact o3.elim
    | lst b => exact o3.elim
    | kls b => exact o3.elim
    | dik k b => exact o3.elim
    | dit k b => exact o3.elim
  | slot i =>
    obtain ⟨v, x, e1, b1, o1⟩ := get_at R o
    refine ⟨_, e1, seqPo R o1 fun lo ρ2 H2 R2 S2 o2 => seqPo R2 o2 fun hi ρ3 H3 R3 S3 o3 => ?_⟩
    obtain ⟨v', x', e1', b3, o4⟩ := get_at R3 o3
    rw [e1] at e1'; cases e1'
    cases x' with
    | tup xs => exact cut_end R3.fav_alc b3 fun w H' k r => o4 w H' (R3.same k) (S2.trans (S3.trans (Stp.same k))) r
    | non => exact o4.elim
    | bl b => exact o4.elim
    | int b => exact o4.elim
    | str b => exact o4.elim
    | lst b => exact o4.elim
    | kls b => exact o4.elim
    | dik k b => exact o4.elim
    | dit k b => exact o4.elim
/-- of a list: a new list -/
def mcutL (p : Opd) (l u : M (Option Int)) : M (List D) := match p with
  | .val f => mbind f fun x => mbind l fun lo => mbind u fun hi => mopt (cutLL x lo hi)
  | .slot i => mbind (mget i) fun _ => mbind l fun lo => mbind u fun hi => mbind (mget i) fun x => mopt (cutLL x lo hi)
theorem sf_cut {p : Opd} {l u : M (Option Int)} {e : Expr} {lo hi : Option Expr} {p2 : Pos} (ha : SO X W p e) (hl : SPo X W l lo) (hu : SPo X W u hi) : SF X W (mcutL p l u) (.Subscript e (.Slice lo hi none p2) pos) := (pe_slice sl_list ha hl hu).imp fun σ H Q ⟨F0, ρ, R, o⟩ => by
  have fin : ∀ {ρ3 : En} {H3 : Hp} {xs : List D} {lo hi : Option Int} {a : Addr} {vs : List V}, Rl X.K F0 ρ3 σ H3 → Stp ρ σ H ρ3 σ H3 → SqL X.K H3 a vs → Reps X.K (Fav F0 ρ3 σ) H3 xs vs → gF X F0 ρ σ H Q (cutG xs lo hi) ρ3 → rSlL X.K (.ref a) lo hi H3 Q := fun {ρ3 H3 xs lo hi a vs} R3 S3 h rs o3 => by
    refine ⟨a, vs, rfl, h, fun p hp => ?_⟩
    have k := Same.new hp (.lst (cutV vs lo hi))
    exact o3 p _ _ (R3.more k hp ⟨_, upd_same⟩) (S3.trans (Stp.same k)) (S3.trk p hp) upd_same ((reps_cut rs lo hi).more k hp)
  cases p with
  | val f =>
    refine seqE R o fun x ρ1 v H1 R1 S1 r1 o1 => seqPo R1 o1 fun lo ρ2 H2 R2 S2 o2 => seqPo R2 o2 fun hi ρ3 H3 R3 S3 o3 => ?_
    have r3 := S3.rep (S2.rep r1)
    cases x with
    | lst xs => obtain ⟨a, vs, rfl, h, rs⟩ := r3.v_lst; exact fin R3 (S1.trans (S2.trans S3)) h rs o3
    | kls xs => obtain ⟨a, vs, rfl, h, rs⟩ := r3.v_kls; exact fin R3 (S1.trans (S2.trans S3)) h rs o3
    | non => exact o3.elim
    | bl b => exact o3.elim
    | int b => exact o3.elim
    | str b => exact o3.elim
    | tup b => exact o3.elim
    | dik k b => exact o3.elim
    | dit k b => exact o3.elim
  | slot i =>
    obtain ⟨v, x, e1, b1, o1⟩ := get_at R o
    refine ⟨_, e1, seqPo R o1 fun lo ρ2 H2 R2 S2 o2 => seqPo R2 o2 fun hi ρ3 H3 R3 S3 o3 => ?_⟩
    obtain ⟨v', x', e1', b3, o4⟩ := get_at R3 o3
    rw [e1] at e1'; cases e1'
    cases x' with
    | lst xs => obtain ⟨a, vs, rfl, h, rs⟩ := b3.v_lst; exact fin R3 (S2.trans S3) h rs o4
    | kls xs => obtain ⟨a, vs, rfl, h, rs⟩ := b3.v_kls; exact fin R3 (S2.trans S3) h rs o4
    | non => exact o4.elim
    | bl b => exact o4.elim
    | int b => exact o4.elim
    | str b => exact o4.elim
    | tup b => exact o4.elim
    | dik k b => exact o4.elim
    | dit k b => exact o4.elim
/-- a target of any form -/
def masg (f : M D) (t : D → M Unit) : M Flow := mbind f fun x ρ => match t x ρ with
  | .ok _ ρ' => .ok .nx ρ'
  | _ => .bad
theorem ss_asg {tg e : Expr} {f : M D} {js : List Nat} {t : D → M Unit} (he : SE X W f e) (hg : SG X js t tg) (hs : swapsWithSole [tg] e pos.line X.env = pure false := by rfl) (hw : swappedStores [tg] e X.env = pure none := by rfl)
    (h1 : (assignEach [tg] X.env).map (·.2) = [assign tg X.env] := by rfl) : SS X W (masg f t) (.Assign [tg] e pos) := (ps_asg he hg hs hw h1).imp fun D σ H ⟨F0, ρ, R, o⟩ =>
  sqE R o fun x ρ1 v H1 R1 S1 r1 o1 => by
    refine ⟨F0, ρ1, x, R1, r1, ?_⟩
    cases e : t x ρ1 with
    | bad => rw [e] at o1; exact o1.elim
    | exc z ρ' => rw [e] at o1; exact o1.elim
    | ok u ρ' =>
      rw [e] at o1
      exact fun σ' H' R' S' _ _ => o1 σ' H' R' S'
/-- return of a list of one's own -/
theorem ss_retO {i : Nat} {e : Expr} (h : PE X e (tVar i)) : SS X W (mretO i) (.Return (some e) pos) := (ps_ret h).imp fun D σ H ⟨F0, ρ, R, o⟩ => by
  unfold mretO at o
  split at o
  · rename_i ds e
    obtain ⟨a, vs, e1, e2, r, n⟩ := R.lst i false ds e
    have oa : OwnAt ρ σ i a := ⟨_, e, .inl ⟨rfl, e1⟩⟩
    -- the rest keeps from it
    have sub : ∀ (j : Nat) (u : SV), (ρ.set i none)[j]? = some (some u) → j ≠ i ∧ ρ[j]? = some (some u) := fun j u ej => by
      rcases set_get ej with ⟨_, z⟩ | ⟨ne, ej⟩
      · cases z
      · exact ⟨ne, ej⟩
    have R1 : Rl X.K (plus F0 a) (ρ.set i none) σ H := by
      have m : ∀ c, Fav (plus F0 a) (ρ.set i none) σ c → Fav F0 ρ σ c ∨ H c = none := fun c z => by
        rcases z with (z | z) | ⟨j, u, ej, s⟩
        · exact .inl (.inl z)
        · rw [z]; exact .inl (.inr oa.own)
        · exact .inl (.inr ⟨j, u, (sub j _ ej).2, s⟩)
      have m2 : ∀ c o, H c = some o → ¬ Fav F0 ρ σ c → H c = some o := fun _ _ e _ => e
      refine ⟨by rw [List.length_set]; exact R.len, fun j y ej => ?_, fun j u w ej => ?_, fun j k u1 u2 c ej ek sj sk => ?_, fun c z => ?_, fun j q ej => R.obj j q (sub j _ ej).2⟩
      · obtain ⟨v, f1, f2⟩ := R.dat j y (sub j _ ej).2
        exact ⟨v, f1, f2.mono m m2⟩
      · obtain ⟨ne, ej⟩ := sub j _ ej
        obtain ⟨c, f1, f3, f4⟩ := R.own j u w ej
        refine ⟨c, f1, f3.mono m m2 fun _ _ => rfl, fun c' hc z => z.elim (f4 c' hc) fun q => ?_⟩
        subst q
        exact ne (R.inj j i u _ c' ej e hc (.inl ⟨rfl, e1⟩))
      · exact R.inj j k u1 u2 c (sub j _ ej).2 (sub k _ ek).2 sj sk
      · rcases z with z | z
        · exact R.alc c z
        · exact ⟨_, by rw [z]; exact e2⟩
    have S1 : Stp ρ σ H (ρ.set i none) σ H := by
      refine ⟨fun _ _ e _ => e, fun c ⟨j, u, ej, s⟩ => .inl ⟨j, u, (sub j _ ej).2, s⟩, fun _ e => e, fun j es ej => ?_, fun j es ej => ?_, List.length_set⟩
      · have ne : j ≠ i := fun z => by rw [z, e] at ej; cases ej
        exact ⟨rfl, es, by rw [List.getElem?_set_ne (Ne.symm ne)]; exact ej⟩
      · have ne : j ≠ i := fun z => by rw [z, e] at ej; cases ej
        exact ⟨rfl, es, by rw [List.getElem?_set_ne (Ne.symm ne)]; exact ej, rfl⟩
    refine ⟨_, e1, o a vs σ H R1 S1 (.inl oa.own) e2 (r.mono (fun c z => ?_) fun _ _ e _ => e)⟩
    rcases z with (z | z) | z
    · exact .inl (.inl z)
    · rw [z]; exact .inl (.inr oa.own)
    · rcases S1.own c z with z | z
      · exact .inl (.inr z)
      · exact .inr z
  · exact o.elim
theorem ss_for1 {iter tg : Expr} {body : List Stmt} {f : M (List D)} {js : List Nat} {t : D → M Unit} {g : M Flow} (hp : PassesOwn (model X.prog X.w) X.A X.env X.xe) (hc : X.calm = true) (hi : SI X W f tg iter) (hg : SG X js t tg) (hb : SSs X W g body)
    (hs : ∀ x, foldedSetIterable iter X.env x = pure x := by intro _; rfl) : SS X W (mforS f t g) (.For tg iter body [] pos) := ss_for hp hc hi hg hb (ps_for hp hc hi hg hb hs)
end
theorem fn_bad {P : Program} {w : World} {K : PySem.W.Frag} {mg : Str → Option Value} {base : Heap} {CX : CXT} {k np : Nat} {f : Addr} {fd : FuncData} {ps : List Str} : FnOk P w K mg base CX k f fd ps (spM K mg np fun _ => .bad) :=
  ⟨fun vs H Q E h => (by obtain ⟨_, as, F0, _, _, o⟩ := h; exact o.elim), fun A outer s H args us vs Q E _ _ _ _ h => (by obtain ⟨_, as, F0, _, _, o⟩ := h; exact o.elim)⟩
/-! ### the law's end -/
def spLaw (K : PySem.W.Frag) : Sp := fun vs H Q _ => ∃ (a : Addr) (ns : List Int), vs = [.ref a] ∧ SqL K H a (ns.map V.int) ∧ ns.length ≤ 63 ∧ ∀ H', Q (.bl true) H'
def lawArg (ns : List Int) : List SV := [.d (.kls (ns.map D.int))]
theorem law_imp {K : PySem.W.Frag} {mg : Str → Option Value} {m : Fn} (main : ∀ ns : List Int, ns.length ≤ 63 → ∃ outs, m (lawArg ns) = .ok (.d (.bl true)) outs) : ∀ vs H Q E, spLaw K vs H Q E → spM K mg 1 m vs H Q E := fun vs H Q E h => by
  obtain ⟨a, ns, rfl, h, hl, q⟩ := h
  obtain ⟨outs, e⟩ := main ns hl
  have at0 : ∀ (i : Nat) (u : SV), ((lawArg ns).map some)[i]? = some (some u) → i = 0 ∧ u = .d (.kls (ns.map D.int)) := fun i u e => by
    cases i with
    | zero => cases e; exact ⟨rfl, rfl⟩
    | succ i => simp [lawArg] at e
  have noF : ∀ c, ¬ Fav (fun _ => False) ((lawArg ns).map some) ([V.ref a].map some) c := fun c z => by
    rcases z with z | ⟨j, u, e, s⟩
    · exact z
    · obtain ⟨_, rfl⟩ := at0 j u e
      exact no_has rfl s
  refine ⟨rfl, lawArg ns, fun _ => False, ⟨rfl, fun i x e => ?_, fun i u w e => ?_, fun i j u w c e1 e2 s1 s2 => ?_, fun a z => z.elim, fun i q e => by
    obtain ⟨_, z⟩ := at0 i _ e
    cases z⟩, fun i u e w => ?_, ?_⟩
  · obtain ⟨rfl, z⟩ := at0 i _ e
    cases z
    exact ⟨_, rfl, .kls h (.inl (noF _)) (Reps.ints ns)⟩
  · obtain ⟨_, rfl⟩ := at0 i u e
    cases w
  · obtain ⟨_, rfl⟩ := at0 i u e1
    exact absurd s1 (no_has rfl)
  · obtain ⟨_, rfl⟩ := at0 i u (somes_get.mpr e)
    cases w
  · rw [e]
    intro v H' A r
    rw [r.v_bl]
    exact q H'
theorem cx_no {P : Program} {w : World} (H : Hp) (s : Shared) (e : Value) (s' : Shared) (h : L2N.CX P w [] H s (fun _ _ _ => False) e s') : False := by
  obtain ⟨_, _, _, _, _, _, _, _, _, _, _, _, z⟩ := h
  exact z
theorem walk {l : PySem.W.OpenLaw} {q : Program} {loose : List Str} {XP : (Str → Option Value) → Heap → Prop} {YP : World → Heap → Prop} {d : DefRec} {K : Params → PySem.W.Frag} (k : Nat) (hk : Room k callerA) (hn : l.most = some 63) (hdf : d.params.defaults = [])
    (hY : ∀ (w : World) (h : Heap), YP w h → (K w.params).In h)
    (F : ∀ (w : World) (mg : Str → Option Value) (fa : Addr) (h : Heap), (K w.params).In h → h.Ns mainGlobals mg → mg d.name = some (.ref fa) →
      ∃ fd : FuncData, (∀ (s : Shared) (u : Value), BindsTo s fd ⟨[u], []⟩ [("script", u)]) ∧ ∀ base : Heap, (K w.params).In base → base.Ns mainGlobals mg → FnOk l.prog w (K w.params) mg base (L2N.CX l.prog w) k fa fd ["script"] (spLaw (K w.params))) :
    PySem.W.WalkO q loose XP YP l.row.toRowW d [] (fun f vs => PySem.call f vs) :=
  L2.walk_of (n := 63) (k := k) (x := "script") (CX := fun w => L2N.CX l.prog w) (sp := fun w => spLaw (K w.params)) hn (by decide) hdf hk hY F (fun _ _ a ns hl _ hS => ⟨a, ns, rfl, hS, hl, fun _ => rfl⟩) fun w H s e s' z => cx_no H s e s' z
end Z

/-! Z: exceptions of own classes: raise, try .. except, isinstance of what is caught -/
namespace Z
open PySem L2
/-! the air: what is said of the exception's object, less of it -/
theorem traced_le {h base : Heap} {e : Addr} {Z Z' : Obj → Prop} {fl : Value} (k : ∀ o, Z o → Z' o) (t : HandSPX.TracedZ h base e Z fl) : HandSPX.TracedZ h base e Z' fl := by
  obtain ⟨oe, vs, T, oT, ts, h1, h2, h3⟩ := t
  exact ⟨oe, vs, T, oT, ts, h1, k _ h2, h3⟩
theorem sky_le {B : Heap} {l : List PySem.Env} {a : Addr} {Z Z' : Obj → Prop} {L : Addr} {h : Heap} (k : ∀ o, Z o → Z' o) (t : Sky B l a Z L h) : Sky B l a Z' L h := by
  rcases t with ⟨h1, h2, h3, oe, vs, h4, h5, h6⟩ | ⟨h1, h2, h3, h4⟩ | ⟨h1, h2, h3, h4⟩
  · exact .inl ⟨h1, h2, h3, oe, vs, h4, k _ h5, h6⟩
  · exact .inr (.inl ⟨h1, h2, h3, traced_le k h4⟩)
  · exact .inr (.inr ⟨h1, h2, h3, traced_le k h4⟩)
theorem takes_old {X : Cx} {W : WX} (tk : Takes X W) : L2N.Takes X W := fun u s' ⟨a, B, sI, pins, σ, H, cls, d, e, I, nb, up, sky, r⟩ => tk u s' ⟨a, B, sI, pins, σ, H, cls, d, e, I, nb, up, sky_le (fun _ z => z.zc) sky, r⟩
theorem takesN {X : Cx} : L2N.Takes X (fun _ _ _ _ => False) := fun _ _ ⟨_, _, _, _, _, _, _, _, _, _, _, _, _, _, _, _, w⟩ => w.elim
theorem takesO {X : Cx} : Takes X (fun _ _ _ _ => False) := fun _ _ ⟨_, _, _, _, _, _, _, _, _, _, _, _, _, _, _, _, w⟩ => w.elim
theorem hot_of {X : Cx} {a : Addr} {oe : Obj} {pn : List (Addr × Obj)} {cls : Value} {d : Option Addr} (hz : L2N.Zn cls d oe) (hv : ∃ vs, oe.data = .fields vs) : L2H.HotC (X.suite a ((a, oe) :: pn)) := by
  obtain ⟨vs, e⟩ := hv
  exact ⟨(a, oe), ⟨rfl, vs, e, hz.2.2 vs e⟩, List.mem_cons_self⟩

/-- an own exception class, made with a text -/
structure XCls (K : PySem.W.Frag) (mg : Str → Option Value) (x : Str) where
  C : Addr
  g : mg x = some (.ref C)
  q : PySem.W.excIn K C [.type "ValueError", .type "Exception", .type "BaseException", .type "object"] "ValueError.__new__" = true
  k : PySem.W.keepIn K (.ref C) = true
  s : PySem.W.subIn K (.ref C) (.type "BaseException") = some true
  t : PySem.W.typeIn K (.ref C) = some (.type "type")
section
variable {X : Cx} {W : WX}
def mraise (c : Str) : M Flow := fun ρ => .exc ⟨c, none⟩ ρ
theorem ss_raise {x m : Str} {j : Nat} {p p2 pos pos' : Pos} (hc : X.calm = true) (tk : L2N.Takes X W) (c : XCls X.K X.mg x) (hg : Gl X x) (hdb : (x == ("__debug__" : Str)) = false := by decide) :
    SS X W (mraise x) (.Raise (some (.Call (.Name x p) [.Constant (.str m) j p2] [] pos)) none pos') :=
  (L2N.ps_raise hc tk (L2N.pmk_own PySem.F.excBase_ValueError c.q c.g c.k (raises_own c.s c.t) hg hdb)).imp fun D σ H ⟨F0, ρ, R, o⟩ => o (.ref c.C) none σ H R (Stp.refl _ _ _) ⟨c.g, rfl⟩

/-! ### a slot that holds the exception -/
section
variable {K : PySem.W.Frag} {F0 : Addr → Prop} {ρ : En} {σ : St} {H : Hp} {i : Nat}
def noOwn (ρ : En) (i : Nat) : Bool := match ρ[i]? with
  | some (some (.own _ _)) => false
  | some (some (.dct _)) => false
  | some (some (.tre _ _)) => false
  | some _ => true
  | none => false
theorem noOwn_lt (h : noOwn ρ i = true) : i < ρ.length := by
  unfold noOwn at h
  cases e : ρ[i]? with
  | none => rw [e] at h; cases h
  | some u => exact (List.getElem?_eq_some_iff.mp e).1
theorem noOwn_ne (h : noOwn ρ i = true) {u : SV} (w : u.owned = true) : ρ[i]? ≠ some (some u) := fun e => by
  unfold noOwn at h
  rw [e] at h
  cases u with
  | d x => cases w
  | ex x => cases w
  | own b ds => cases h
  | dct x => cases h
  | tre b es => cases h
theorem Rl.setE (R : Rl K F0 ρ σ H) {a : Addr} (hi : i < ρ.length) : Rl K F0 (ρ.set i (some (.ex a))) (σ.set i (some (.ref a))) H ∧ ∀ b, Own (ρ.set i (some (.ex a))) (σ.set i (some (.ref a))) b → Own ρ σ b := by
  have R' : Rl K (fun a => F0 a ∨ False) ρ σ H := R.less fun a z => z.elim id False.elim
  obtain ⟨R1, less⟩ := R'.setP (P := fun _ => False) (w := some (.ex a)) (v := some (.ref a)) (H' := H) (fun _ z => z.elim) hi (fun _ _ e _ _ => e) (fun u c e s => by cases e; exact absurd s (no_has rfl)) fun k => rfl
  exact ⟨R1, fun a z => (less a z).elim id fun ⟨u, e, s⟩ => by cases e; exact absurd s (no_has rfl)⟩
/-- a slot that owns nothing, anew -/
theorem Stp.slot {u : Option SV} {v : Option V} (n : ∀ w : SV, w.owned = true → ρ[i]? ≠ some (some w)) (less : ∀ a, Own (ρ.set i u) (σ.set i v) a → Own ρ σ a) : Stp ρ σ H (ρ.set i u) (σ.set i v) H :=
  Stp.set (fun ds => n _ rfl) (fun es => n _ rfl) fun a z => .inl (less a z)
end

/-! ### try .. except X as e -/
/-- the slot is let go of -/
def strip (i : Nat) : Rs Flow → Rs Flow
  | .ok fl ρ => if noOwn ρ i = true then .ok fl (ρ.set i none) else .bad
  | _ => .bad
open Classical in
/-- the handler, whatever the exception's address -/
noncomputable def handled (i : Nat) (h : Addr → M Flow) (ρ : En) : Rs Flow :=
  if noOwn ρ i = true ∧ ∀ a, strip i (h a (ρ.set i (some (.ex a)))) = strip i (h 0 (ρ.set i (some (.ex 0)))) then strip i (h 0 (ρ.set i (some (.ex 0)))) else .bad
noncomputable def mtry (i : Nat) (sub : Str → Option Bool) (body : M Flow) (h : Exn → Addr → M Flow) : M Flow := fun ρ => match body ρ with
  | .exc e ρ' => (match e.fld, sub e.cls with
    | none, some true => handled i (h e) ρ'
    | _, some false => .exc e ρ'
    | _, _ => .bad)
  | r => r
/-- without a name: all that is raised is caught -/
def mtryO (sub : Str → Option Bool) (body : M Flow) (h : Exn → M Flow) : M Flow := fun ρ => match body ρ with
  | .exc e ρ' => (match e.fld, sub e.cls with
    | none, some true => (match h e ρ' with
      | .ok fl ρ2 => .ok fl ρ2
      | _ => .bad)
    | _, _ => .bad)
  | r => r
/-- what a clause's class says of the classes that are raised -/
def SubOk (K : PySem.W.Frag) (mg : Str → Option Value) (c : Value) (sub : Str → Option Bool) : Prop := ∀ x b, sub x = some b → ∃ C, mg x = some (.ref C) ∧ PySem.W.exmOne K (.ref C) c = some b
theorem PSs.ex {α : Sort _} {X : Cx} {sts : List Stmt} {p : α → Prop} {t : α → TS} (h : ∀ a, p a → PSs X sts (t a)) : PSs X sts (fun D σ H => ∃ a, p a ∧ t a D σ H) :=
  ⟨fun pins s σ H D I ⟨a, ha, q⟩ => (h a ha).run pins s σ H D I q⟩
theorem OutS.handler {F0 : Addr → Prop} {ρ ρ1 : En} {σ σ1 : St} {H H1 : Hp} {Ds : Ends} {i : Nat} {a : Addr} {r : Rs Flow} (S : Stp ρ σ H ρ1 σ1 H1) (n : noOwn ρ1 i = true) (less : ∀ c, Own (ρ1.set i (some (.ex a))) (σ1.set i (some (.ref a))) c → Own ρ1 σ1 c)
    (o : OutS X W F0 ρ σ H Ds (strip i r)) : OutS X (fun _ _ _ _ => False) F0 (ρ1.set i (some (.ex a))) (σ1.set i (some (.ref a))) H1
      { nx := fun σ' H' => Ds.nx (σ'.set i none) H', rt := Ds.rt, bk := fun σ' H' => Ds.bk (σ'.set i none) H', ct := fun σ' H' => Ds.ct (σ'.set i none) H' } r := by
  have S2 : Stp ρ σ H (ρ1.set i (some (.ex a))) (σ1.set i (some (.ref a))) H1 := S.trans (Stp.slot (fun u w => noOwn_ne n w) less)
  cases r with
  | bad => exact o
  | exc e ρ' => exact o.elim
  | ok fl ρ' =>
    unfold strip at o
    simp only at o
    split at o
    · rename_i hn
      have go : ∀ {G : Addr → Prop} {σ' : St} {H' : Hp}, Rl X.K G ρ' σ' H' → Stp (ρ1.set i (some (.ex a))) (σ1.set i (some (.ref a))) H1 ρ' σ' H' →
          Rl X.K G (ρ'.set i none) (σ'.set i none) H' ∧ Stp ρ σ H (ρ'.set i none) (σ'.set i none) H' ∧ ∀ c, Own (ρ'.set i none) (σ'.set i none) c → Own ρ' σ' c := fun {G σ' H'} R' T => by
        obtain ⟨R2, less2⟩ := R'.setN (i := i) (u := none)
        exact ⟨R2, S2.trans (T.trans (Stp.slot (fun u w => noOwn_ne hn w) less2)), less2⟩
      cases fl with
      | nx => intro σ' H' R' T; obtain ⟨R2, T2, _⟩ := go R' T; exact o _ _ R2 T2
      | bk => intro σ' H' R' T; obtain ⟨R2, T2, _⟩ := go R' T; exact o _ _ R2 T2
      | ct => intro σ' H' R' T; obtain ⟨R2, T2, _⟩ := go R' T; exact o _ _ R2 T2
      | rt x =>
        intro v σ' H' R' T r
        obtain ⟨R2, T2, l2⟩ := go R' T
        exact o v _ _ R2 T2 (r.mono (fun c z => .inl (z.imp id (l2 c))) fun _ _ e _ => e)
      | rtr ts =>
        intro p es σ' H' R' T hp hs r
        obtain ⟨R2, T2, l2⟩ := go R' T
        exact o p es _ _ R2 T2 (fun c hc => (hp c hc).elim (fun z => S.own c (less c z)) fun z => .inr (S.trk c z)) hs (r.mono (fun c z => .inl (z.imp id (l2 c))) (fun _ _ e _ => e) fun _ _ => rfl)
      | rf ds =>
        intro p vs σ' H' R' T hp hv r
        obtain ⟨R2, T2, l2⟩ := go R' T
        exact o p vs _ _ R2 T2 (hp.elim (fun z => S.own p (less p z)) fun z => .inr (S.trk p z)) hv (r.mono (fun c z => .inl (z.imp id (l2 c))) fun _ _ e _ => e)
    · exact o.elim
theorem ss_try {x n : Str} {c : Value} {i : Nat} {body suite : List Stmt} {b₀ : Stmt} {np pos pos' : Pos} {sub : Str → Option Bool} {g : M Flow} {h : Exn → Addr → M Flow}
    (hs : X.stack = X.env :: X.outer) (hf : X.env.frame = some X.env.locals) (hN : X.N.Nodup) (hi : X.N[i]? = some n) (hln : X.env.kindOf n = some .local) (hc : Names X x c) (tk : L2N.Takes X W) (hsub : SubOk X.K X.mg c sub)
    (hb : ∀ (W : WX) (pn : List (Addr × Obj)) (xe : Value → Shared → Prop), L2N.Takes (X.tr pn xe) W → PassesOwn (model X.prog X.w) X.A X.env xe → SSs (X.tr pn xe) W g body)
    (hsu : ∀ (e : Exn) (a C : Addr) (oe : Obj) (pn : List (Addr × Obj)), X.mg e.cls = some (.ref C) → e.fld = none → L2N.Zn (.ref C) none oe → (∃ vs, oe.data = .fields vs) → SSs (X.suite a ((a, oe) :: pn)) (fun _ _ _ _ => False) (h e a) (b₀ :: suite)) :
    SS X W (mtry i sub g h) (.Try body [.ExceptHandler (some (.Name x np)) (some n) (b₀ :: suite) pos'] [] [] pos) := by
  refine (L2N.ps_try_as (tb := fun W => tS X W g) (ts := fun a cls d D σ H => ∃ e : Exn, (X.mg e.cls = some cls ∧ e.fld = none ∧ d = none ∧ ∃ C, cls = .ref C) ∧ tS X (fun _ _ _ _ => False) (h e a) D σ H) (Wout := W) hs hf hN hi hln hc tk (fun W' pn xe tk' hp' => hb W' pn xe tk' hp') fun a oe cls d pn hz hv => PSs.ex fun e he => ?_).imp fun D σ H ⟨F0, ρ, R, o⟩ => ?_
  · obtain ⟨h1, h2, rfl, C, rfl⟩ := he
    exact hsu e a C oe pn h1 h2 hz hv
  · refine ⟨F0, ρ, R, ?_⟩
    unfold mtry at o
    cases eg : g ρ with
    | bad => rw [eg] at o; exact o
    | ok fl ρ' => rw [eg] at o; cases fl <;> exact o
    | exc e ρ' =>
      rw [eg] at o
      intro cv d σ' H' R' S' xr
      obtain ⟨ec, ed⟩ := xr
      simp only at o
      split at o
      · rename_i hfl hsb
        rw [hfl] at ed
        have ed : d = none := ed
        subst ed
        obtain ⟨C, gC, hC⟩ := hsub _ _ hsb
        have eC : cv = .ref C := Option.some.inj (ec.symm.trans gC)
        subst eC
        refine ⟨true, hC, fun _ a na => ?_, fun z => by cases z⟩
        unfold handled at o
        split at o
        · rename_i hh
          obtain ⟨hn, hall⟩ := hh
          rw [← hall a] at o
          obtain ⟨R2, less⟩ := R'.setE (a := a) (noOwn_lt hn)
          exact ⟨e, ⟨ec, hfl, rfl, C, rfl⟩, F0, _, R2, OutS.handler S' hn less o⟩
        · exact o.elim
      · rename_i hsb
        obtain ⟨C, gC, hC⟩ := hsub _ _ hsb
        have eC : cv = .ref C := Option.some.inj (ec.symm.trans gC)
        subst eC
        exact ⟨false, hC, fun z => (by cases z), fun _ => o _ d σ' H' R' S' ⟨ec, ed⟩⟩
      · exact o.elim
theorem OutS.handlerO {F0 : Addr → Prop} {ρ ρ1 : En} {σ σ1 : St} {H H1 : Hp} {Ds : Ends} {r : Rs Flow} (S : Stp ρ σ H ρ1 σ1 H1)
    (o : OutS X W F0 ρ σ H Ds (match r with
      | .ok fl ρ2 => .ok fl ρ2
      | _ => .bad)) : OutS X (fun _ _ _ _ => False) F0 ρ1 σ1 H1 Ds r := by
  cases r with
  | bad => exact o
  | exc e ρ' => exact o.elim
  | ok fl ρ' =>
    cases fl with
    | nx => exact fun σ' H' R' T => o _ _ R' (S.trans T)
    | bk => exact fun σ' H' R' T => o _ _ R' (S.trans T)
    | ct => exact fun σ' H' R' T => o _ _ R' (S.trans T)
    | rt x => exact fun v σ' H' R' T r => o v _ _ R' (S.trans T) r
    | rtr ts => exact fun p es σ' H' R' T hp hs r => o p es _ _ R' (S.trans T) (fun c hc => (hp c hc).elim (fun z => S.own c z) fun z => .inr (S.trk c z)) hs r
    | rf ds => exact fun p vs σ' H' R' T hp hv r => o p vs _ _ R' (S.trans T) (hp.elim (fun z => S.own p z) fun z => .inr (S.trk p z)) hv r
theorem ss_tryO {x : Str} {c : Value} {body suite : List Stmt} {b₀ : Stmt} {np pos pos' : Pos} {sub : Str → Option Bool} {g : M Flow} {h : Exn → M Flow}
    (hs : X.stack = X.env :: X.outer) (hf : X.env.frame = some X.env.locals) (hc : Names X x c) (hsub : SubOk X.K X.mg c sub)
    (hb : ∀ (W : WX) (pn : List (Addr × Obj)) (xe : Value → Shared → Prop), L2N.Takes (X.tr pn xe) W → PassesOwn (model X.prog X.w) X.A X.env xe → SSs (X.tr pn xe) W g body)
    (hsu : ∀ (e : Exn) (a C : Addr) (oe : Obj) (pn : List (Addr × Obj)), X.mg e.cls = some (.ref C) → e.fld = none → Zc (.ref C) none oe → (∃ vs, oe.data = .fields vs) → SSs (X.suite a ((a, oe) :: pn)) (fun _ _ _ _ => False) (h e) (b₀ :: suite)) :
    SS X W (mtryO sub g h) (.Try body [.ExceptHandler (some (.Name x np)) none (b₀ :: suite) pos'] [] [] pos) := by
  refine (ps_try_only (tb := fun W => tS X W g) (ts := fun a cls d D σ H => ∃ e : Exn, (X.mg e.cls = some cls ∧ e.fld = none ∧ d = none ∧ ∃ C, cls = .ref C) ∧ tS X (fun _ _ _ _ => False) (h e) D σ H) (Wout := fun _ _ _ _ => False) hs hf hc takesO (fun W' pn xe tk' hp' => hb W' pn xe (takes_old tk') hp') fun a oe cls d pn hz hv => PSs.ex fun e he => ?_).imp fun D σ H ⟨F0, ρ, R, o⟩ => ?_
  · obtain ⟨h1, h2, rfl, C, rfl⟩ := he
    exact hsu e a C oe pn h1 h2 hz hv
  · refine ⟨F0, ρ, R, ?_⟩
    unfold mtryO at o
    cases eg : g ρ with
    | bad => rw [eg] at o; exact o
    | ok fl ρ' => rw [eg] at o; cases fl <;> exact o
    | exc e ρ' =>
      rw [eg] at o
      intro cv d σ' H' R' S' xr
      obtain ⟨ec, ed⟩ := xr
      simp only at o
      split at o
      · rename_i hfl hsb
        rw [hfl] at ed
        have ed : d = none := ed
        subst ed
        obtain ⟨C, gC, hC⟩ := hsub _ _ hsb
        have eC : cv = .ref C := Option.some.inj (ec.symm.trans gC)
        subst eC
        exact ⟨true, hC, fun _ a na => ⟨e, ⟨ec, hfl, rfl, C, rfl⟩, F0, ρ', R', OutS.handlerO S' o⟩, fun z => by cases z⟩
      · exact o.elim

/-! ### isinstance(e, C) of the exception in hand -/
def misE (i : Nat) (a : Addr) (o : Option Bool) : M D := fun ρ => match ρ[i]? with
  | some (some (.ex b)) => if b = a then (match o with
    | some c => .ok (.bl c) ρ
    | none => .bad) else .bad
  | _ => .bad
/-- what an own class says where its instances are asked; tab: of which the class D is one -/
def IsOk (K : PySem.W.Frag) (mg : Str → Option Value) (cv : Value) (tab : Str → Option Bool) : Prop := ∀ x b, tab x = some b → ∀ C, mg x = some (.ref C) → ExcC K C ∧ PySem.W.kitOne K (.ref C) cv = some b
theorem se_isE {i : Nat} {a C : Addr} {oe : Obj} {pn : List (Addr × Obj)} {cls : Str} {tab : Str → Option Bool} {e te : Expr} {c : V} {cv : Value} {p pos : Pos} (hz : Zc (.ref C) none oe) (hv : ∃ vs, oe.data = .fields vs) (hC : X.mg cls = some (.ref C)) (ht : IsOk X.K X.mg cv tab)
    (hg : Gl X "isinstance") (hm : X.mg "isinstance" = none) (he : PE (X.suite a ((a, oe) :: pn)) e (tVar i)) (hD : PE (X.suite a ((a, oe) :: pn)) te (tC c)) (hcv : ∀ u, RelV c u → u = cv)
    (h1 : starEach (e :: [te]) X.env = (false, eval e X.env) :: starEach [te] X.env := by rfl) (h2 : starEach (te :: []) X.env = (false, eval te X.env) :: starEach [] X.env := by rfl) (hpl : (backTo pos (starEach [te] X.env)).any (·.1) = false := by rfl) :
    SE (X.suite a ((a, oe) :: pn)) W (misE i a (tab cls)) (.Call (.Name "isinstance" p) [e, te] [] pos) := by
  cases eb : tab cls with
  | none =>
    refine ⟨fun pins s σ H Q I ⟨F0, ρ, R, o⟩ => ?_⟩
    unfold misE at o
    split at o
    · split at o
      · exact o.elim
      · exact o.elim
    · exact o.elim
  | some b =>
    obtain ⟨hx, hk⟩ := ht _ _ eb _ hC
    refine (pe_callB (X := X.suite a ((a, oe) :: pn)) (call_isE hx hz hv) hg hm (by decide +kernel) (pa_cons he (pa_cons hD pa_nil h2) h1) (by decide) (by decide) h1 hpl).imp fun σ H Q ⟨F0, ρ, R, o⟩ => ?_
    unfold misE at o
    split at o
    · rename_i b' e1
      split at o
      · rename_i ea
        subst ea
        refine ⟨_, R.obj i _ e1, ?_⟩
        exact ⟨c, cv, b, rfl, hcv, hk, o (.bl b) H R (Stp.refl _ _ _) (.bl b)⟩
      · exact o.elim
    · exact o.elim
end
end Z
namespace Z
open PySem L2
def tab (l : List (Str × Bool)) (x : Str) : Option Bool := match l with
  | [] => none
  | (y, b) :: r => if x = y then some b else tab r x
section
variable {K : PySem.W.Frag} {mg : Str → Option Value} {c : Value} {l : List (Str × Bool)} {x : Str} {C : Addr} {b : Bool}
theorem sub_nil : SubOk K mg c (tab []) := fun x b e => by cases e
theorem sub_cons (g : mg x = some (.ref C)) (e : PySem.W.exmOne K (.ref C) c = some b) (r : SubOk K mg c (tab l)) : SubOk K mg c (tab ((x, b) :: l)) := fun y b' e' => by
  unfold tab at e'
  split at e'
  · rename_i h; subst h; cases e'; exact ⟨C, g, e⟩
  · exact r y b' e'
theorem is_nil : IsOk K mg c (tab []) := fun x b e => by cases e
theorem is_cons (g : mg x = some (.ref C)) (h : ExcC K C) (e : PySem.W.kitOne K (.ref C) c = some b) (r : IsOk K mg c (tab l)) : IsOk K mg c (tab ((x, b) :: l)) := fun y b' e' C' g' => by
  unfold tab at e'
  split at e'
  · rename_i h'; subst h'; cases e'
    rw [g] at g'; cases g'
    exact ⟨h, e⟩
  · exact r y b' e' C' g'
end
end Z
namespace Z
open PySem L2
theorem kit_ref {K : PySem.W.Frag} {t : Value} {D : Addr} {b : Bool} (hd : PySem.W.hasDictIn K D = true) (ht : PySem.W.typeIn K (.ref D) = some (.type "type")) (hs : PySem.W.subIn K t (.ref D) = some b) (self : PySem.W.subIn K (.ref D) (.ref D) = some true) : PySem.W.kitOne K t (.ref D) = some b := by
  unfold PySem.W.kitOne
  split
  · rename_i h
    have e : t = .ref D := beq_iff_eq.mp h
    subst e
    rw [self] at hs; exact hs
  · obtain ⟨cd, hc, _⟩ := PySem.W.any_some hd
    unfold PySem.W.kitCls
    simp only [hc, ht, Option.isSome_some, beq_self_eq_true, Bool.and_self, if_true]
    exact hs
theorem kit_ty {K : PySem.W.Frag} {C : Addr} {T : String} {b : Bool} (h : PySem.W.kitMeta T = true) (hs : PySem.W.subIn K (.ref C) (.type T) = some b) : PySem.W.kitOne K (.ref C) (.type T) = some b := by
  unfold PySem.W.kitOne
  rw [if_neg (by intro q; exact absurd (beq_iff_eq.mp q) (by intro z; cases z))]
  unfold PySem.W.kitCls
  simp only
  rw [if_pos h]
  exact hs
end Z

/-! Z: chained comparisons, list(range), tuple(range), sorted(set(..)) -/
namespace Z
open PySem L2
section
variable {X : Cx} {W : WX} {pos : Pos}
/-! ### a op b op c -/
def mchain (s1 s2 : D → D → Option D) (f g h : M D) : M D := mbind f fun x => mbind g fun y => mbind (mopt (s1 x y)) fun z => mbind (mopt (toB z)) fun k => if k = true then mbind h fun u => mopt (s2 y u) else mpure (.bl false)
theorem chain_of {r r' : R2} {s1 s2 : D → D → Option D} {f g h : M D} (h1 : Sem2 X r s1) (h2 : Sem2 X r' s2) : ∀ σ H Q, tE X W (mchain s1 s2 f g h) σ H Q → tChain r r' (tE X W f) (tE X W g) (tE X W h) σ H Q := fun σ H Q ⟨F0, ρ, R, o⟩ =>
  seqE R o fun x ρ1 v H1 R1 S1 r1 o1 => seqE R1 o1 fun y ρ2 u H2 R2 S2 r2 o2 => by
    obtain ⟨z, ez, o3⟩ := Out.opt (Out.bind o2)
    refine h1 R2.fav_alc (S2.rep r1).bor r2.bor ez fun w H3 k r3 => ?_
    obtain ⟨c, ec, o4⟩ := Out.opt (Out.bind o3)
    have ew := toB_of r3 ec
    subst ew
    refine ⟨c, rfl, ?_⟩
    have R3 := R2.same k
    have S3 : Stp ρ2 σ H2 ρ2 σ H3 := Stp.same k
    cases c with
    | false => exact o4 (.bl false) H3 R3 (S1.trans (S2.trans S3)) (.bl false)
    | true =>
      refine seqE R3 (Out.step S3 o4) fun t ρ4 q H4 R4 S4 r4 o5 => ?_
      obtain ⟨z2, e2, o6⟩ := Out.opt o5
      refine h2 R4.fav_alc (S4.rep (S3.rep r2)).bor r4.bor e2 fun w H5 k5 r5 => ?_
      exact o6 w H5 (R4.same k5) ((S1.trans (S2.trans S3)).trans (S4.trans (Stp.same k5))) r5
theorem se_chain {op op' : CmpOp} {r r' : R2} {s1 s2 : D → D → Option D} {f g h : M D} {a b c : Expr} (ho : OpR X (compareOp op) r) (h1 : Sem2 X r s1) (ho' : OpR X (compareOp op') r') (h2 : Sem2 X r' s2) (ha : SE X W f a) (hb : SE X W g b) (hc : SE X W h c)
    (hm : lastMarks [op, op'] [b, c] = false) : SE X W (mchain s1 s2 f g h) (.Compare a [op, op'] [b, c] pos) := (pe_chain ho ho' ha hb hc hm).imp (chain_of h1 h2)
theorem st_chain {op op' : CmpOp} {r r' : R2} {s1 s2 : D → D → Option D} {f g h : M D} {a b c : Expr} (ho : OpR X (compareOp op) r) (h1 : Sem2 X r s1) (ho' : OpR X (compareOp op') r') (h2 : Sem2 X r' s2) (ha : SE X W f a) (hb : SE X W g b) (hc : SE X W h c)
    (hm : lastMarks [op, op'] [b, c] = false) : ST X W (mbool (mchain s1 s2 f g h)) (.Compare a [op, op'] [b, c] pos) := (pt_chain ho ho' ha hb hc hm).imp fun σ H Q ⟨F0, ρ, R, o⟩ => by
  refine chain_of h1 h2 σ H _ ⟨F0, ρ, R, (Out.bind o).imp fun x ρ1 o1 v H1 R1 S1 r1 => ?_⟩
  obtain ⟨c, ec, q⟩ := Out.opt o1
  exact ⟨c, toB_of r1 ec, q H1 R1 S1⟩

/-! ### list(range(..)), tuple(range(..)) -/
def rgL (a b : Int) : List D := rangeL a (b - a).toNat
theorem reps_rg {K : PySem.W.Frag} {F : Addr → Prop} {H : Hp} (a b : Int) : Reps K F H (rgL a b) (rgV a b) := by
  unfold rgL rangeL rgV
  induction List.range (b - a).toNat with
  | nil => exact .nil
  | cons i r ih => exact .cons (.int _) ih
def rg1D : D → Option (List D)
  | .int n => if n ≤ 16777216 ∧ -16777216 ≤ n then some (rgL 0 n) else none
  | _ => none
def rg2D : D → D → Option (List D)
  | .int a, .int b => if (-16777216 ≤ a ∧ a ≤ 16777216) ∧ (-16777216 ≤ b ∧ b ≤ 16777216) ∧ b - a ≤ 16777216 then some (rgL a b) else none
  | _, _ => none
theorem rg1_ok {F : Addr → Prop} {H : Hp} {x : D} {v : V} {ds : List D} (r : Rep X.K F H x v) (e : rg1D x = some ds) : ∃ n, v = .int n ∧ RgOk 0 n ∧ ds = rgL 0 n := by
  unfold rg1D at e
  split at e
  · split at e
    · rename_i h; cases e; exact ⟨_, r.v_int, ⟨by omega, by omega, by omega, by omega, by omega⟩, rfl⟩
    · cases e
  · cases e
theorem rg2_ok {F F' : Addr → Prop} {H H' : Hp} {x y : D} {v u : V} {ds : List D} (r : Rep X.K F H x v) (r' : Rep X.K F' H' y u) (e : rg2D x y = some ds) : ∃ a b, v = .int a ∧ u = .int b ∧ RgOk a b ∧ ds = rgL a b := by
  unfold rg2D at e
  split at e
  · split at e
    · rename_i h; cases e; exact ⟨_, _, r.v_int, r'.v_int, ⟨by omega, by omega, by omega, by omega, by omega⟩, rfl⟩
    · cases e
  · cases e
variable {f g : M D} {a b : Expr} {p p2 pos2 : Pos}
theorem sf_listRange1 (hc : X.calm = true) (hg : Gl X "list") (hm : X.mg "list" = none) (hg2 : Gl X "range") (hm2 : X.mg "range" = none) (ha : SE X W f a) (na : starEach [a] X.env = (false, eval a X.env) :: starEach [] X.env := by rfl)
    (nb : starEach [.Call (.Name "range" p2) [a] [] pos2] X.env = (false, eval (.Call (.Name "range" p2) [a] [] pos2) X.env) :: starEach [] X.env := by rfl) :
    SF X W (mbind f fun x => mopt (rg1D x)) (.Call (.Name "list" p) [.Call (.Name "range" p2) [a] [] pos2] [] pos) :=
  (pe_listRg hc hg hm (prg_1 hg2 hm2 ha na) nb).imp fun σ H Q ⟨F0, ρ, R, o⟩ => seqE R o fun x ρ1 v H1 R1 S1 r1 o1 => by
    obtain ⟨ds, e, q⟩ := Out.opt o1
    obtain ⟨n, ev, ok, ed⟩ := rg1_ok r1 e
    subst ev ed
    refine ⟨n, rfl, ok, fun l hl => ?_⟩
    have k := Same.new hl (.lst (rgV 0 n))
    exact q l _ _ (R1.more k hl ⟨_, upd_same⟩) (S1.trans (Stp.same k)) (S1.trk l hl) upd_same (reps_rg _ _)
theorem sf_listRange2 (hc : X.calm = true) (hg : Gl X "list") (hm : X.mg "list" = none) (hg2 : Gl X "range") (hm2 : X.mg "range" = none) (ha : SE X W f a) (hb : SE X W g b) (na : starEach [a, b] X.env = (false, eval a X.env) :: starEach [b] X.env := by rfl)
    (nc : starEach [b] X.env = (false, eval b X.env) :: starEach [] X.env := by rfl) (hp : (backTo pos2 (starEach [b] X.env)).any (·.1) = false := by rfl)
    (nb : starEach [.Call (.Name "range" p2) [a, b] [] pos2] X.env = (false, eval (.Call (.Name "range" p2) [a, b] [] pos2) X.env) :: starEach [] X.env := by rfl) :
    SF X W (mbind f fun x => mbind g fun y => mopt (rg2D x y)) (.Call (.Name "list" p) [.Call (.Name "range" p2) [a, b] [] pos2] [] pos) :=
  (pe_listRg hc hg hm (prg_2 hg2 hm2 ha hb na nc hp) nb).imp fun σ H Q ⟨F0, ρ, R, o⟩ => seqE R o fun x ρ1 v H1 R1 S1 r1 o1 => seqE R1 o1 fun y ρ2 u H2 R2 S2 r2 o2 => by
    obtain ⟨ds, e, q⟩ := Out.opt o2
    obtain ⟨n, m, ev, eu, ok, ed⟩ := rg2_ok r1 r2 e
    subst ev eu ed
    refine ⟨n, m, rfl, rfl, ok, fun l hl => ?_⟩
    have k := Same.new hl (.lst (rgV n m))
    have S := S1.trans S2
    exact q l _ _ (R2.more k hl ⟨_, upd_same⟩) (S.trans (Stp.same k)) (S.trk l hl) upd_same (reps_rg _ _)
theorem se_tupRange1 (hc : X.calm = true) (hg : Gl X "tuple") (hm : X.mg "tuple" = none) (hg2 : Gl X "range") (hm2 : X.mg "range" = none) (ha : SE X W f a) (na : starEach [a] X.env = (false, eval a X.env) :: starEach [] X.env := by rfl)
    (nb : starEach [.Call (.Name "range" p2) [a] [] pos2] X.env = (false, eval (.Call (.Name "range" p2) [a] [] pos2) X.env) :: starEach [] X.env := by rfl) :
    SE X W (mbind f fun x => mbind (mopt (rg1D x)) fun ds => mpure (.tup ds)) (.Call (.Name "tuple" p) [.Call (.Name "range" p2) [a] [] pos2] [] pos) :=
  (pe_tupRg hc hg hm (prg_1 hg2 hm2 ha na) nb).imp fun σ H Q ⟨F0, ρ, R, o⟩ => seqE R o fun x ρ1 v H1 R1 S1 r1 o1 => by
    obtain ⟨ds, e, q⟩ := Out.opt (Out.bind o1)
    obtain ⟨n, ev, ok, ed⟩ := rg1_ok r1 e
    subst ev ed
    refine ⟨n, rfl, ok, fun l hl => ?_⟩
    have k := Same.new hl (.tup (rgV 0 n))
    exact q _ _ (R1.same k) (S1.trans (Stp.same k)) (rep_newT (fun a => R1.fav_alc a) hl (reps_rg _ _))
theorem se_tupRange2 (hc : X.calm = true) (hg : Gl X "tuple") (hm : X.mg "tuple" = none) (hg2 : Gl X "range") (hm2 : X.mg "range" = none) (ha : SE X W f a) (hb : SE X W g b) (na : starEach [a, b] X.env = (false, eval a X.env) :: starEach [b] X.env := by rfl)
    (nc : starEach [b] X.env = (false, eval b X.env) :: starEach [] X.env := by rfl) (hp : (backTo pos2 (starEach [b] X.env)).any (·.1) = false := by rfl)
    (nb : starEach [.Call (.Name "range" p2) [a, b] [] pos2] X.env = (false, eval (.Call (.Name "range" p2) [a, b] [] pos2) X.env) :: starEach [] X.env := by rfl) :
    SE X W (mbind f fun x => mbind g fun y => mbind (mopt (rg2D x y)) fun ds => mpure (.tup ds)) (.Call (.Name "tuple" p) [.Call (.Name "range" p2) [a, b] [] pos2] [] pos) :=
  (pe_tupRg hc hg hm (prg_2 hg2 hm2 ha hb na nc hp) nb).imp fun σ H Q ⟨F0, ρ, R, o⟩ => seqE R o fun x ρ1 v H1 R1 S1 r1 o1 => seqE R1 o1 fun y ρ2 u H2 R2 S2 r2 o2 => by
    obtain ⟨ds, e, q⟩ := Out.opt (Out.bind o2)
    obtain ⟨n, m, ev, eu, ok, ed⟩ := rg2_ok r1 r2 e
    subst ev eu ed
    refine ⟨n, m, rfl, rfl, ok, fun l hl => ?_⟩
    have k := Same.new hl (.tup (rgV n m))
    have S := S1.trans S2
    exact q _ _ (R2.same k) (S.trans (Stp.same k)) (rep_newT (fun a => R2.fav_alc a) hl (reps_rg _ _))

/-! ### sorted(set(a tuple of whole numbers)) -/
def rSetTI (K : PySem.W.Frag) (w : World) : List V → Hp → VK → Prop := fun xs H Q => ∃ (p : Addr) (ns : List Int), xs = [V.ref p] ∧ SqT K H p (ns.map V.int) ∧ ns.length < 64 ∧ ∀ (q : Addr) (c : Nat), H q = none → c ≤ ns.length → Q (.ref q) (upd H q (SetO w q (fun j => decide (j ∈ ns)) c))
def insU (k : Int) : List Int → List Int
  | [] => [k]
  | a :: l => if k < a then k :: a :: l else if k = a then a :: l else a :: insU k l
def sortU (ns : List Int) : List Int := ns.foldr insU []
theorem mem_insU (k j : Int) : ∀ l, j ∈ insU k l ↔ j = k ∨ j ∈ l
  | [] => by simp [insU]
  | a :: l => by
    unfold insU
    split
    · simp
    · split
      · rename_i h; subst h; simp
      · simp [mem_insU k j l]; constructor <;> (rintro (h | h | h) <;> simp [h])
theorem mem_sortU (j : Int) : ∀ ns, j ∈ sortU ns ↔ j ∈ ns
  | [] => by simp [sortU]
  | a :: l => by
    have ih := mem_sortU j l
    show j ∈ insU a (sortU l) ↔ _
    rw [mem_insU, ih]; simp
theorem insU_pw (k : Int) : ∀ l, l.Pairwise (· < ·) → (insU k l).Pairwise (· < ·)
  | [], _ => by simp [insU]
  | a :: l, h => by
    have h1 := List.pairwise_cons.mp h
    unfold insU
    split
    · rename_i hk
      refine List.pairwise_cons.mpr ⟨fun x hx => ?_, h⟩
      rcases List.mem_cons.mp hx with e | hx
      · rw [e]; exact hk
      · have := h1.1 x hx; omega
    · split
      · exact h
      · refine List.pairwise_cons.mpr ⟨fun x hx => ?_, insU_pw k l h1.2⟩
        rcases (mem_insU k x l).mp hx with e | hx
        · omega
        · exact h1.1 x hx
theorem sortU_pw : ∀ ns, (sortU ns).Pairwise (· < ·)
  | [] => .nil
  | a :: l => insU_pw a _ (sortU_pw l)
theorem pw_nodup {l : List Int} (h : l.Pairwise (· < ·)) : l.Nodup := h.imp fun {a b} h => by omega
theorem pw_eq {l m : List Int} (h1 : l.Pairwise (· < ·)) (h2 : m.Pairwise (· < ·)) (h : ∀ j, j ∈ l ↔ j ∈ m) : l = m :=
  (((List.perm_ext_iff_of_nodup (pw_nodup h1) (pw_nodup h2)).mpr h)).eq_of_pairwise (le := (· < ·)) (fun a b _ _ h1 h2 => by omega) h1 h2
theorem cr_setTI (hc : X.calm = true) : CallR X (.type "set") (rSetTI X.K X.w) := by
  intro pins s σ H xs us Q I r h
  obtain ⟨p, ns, rfl, hs, h64, q⟩ := h
  rw [Vals.ref1 r]
  obtain ⟨its, rv, pl, hz⟩ := I.tuple hs
  have hi := ints_of_vals rv
  refine call_set_tupI ns (I.ok.hd hc) pl (by simpa using hi) (by have : scanBound = 1000 ∨ True := .inr trivial; unfold scanBound; omega) fun h' tk c hS hcl hk => ?_
  exact ⟨.ref _, upd H s.heap.objs.size (SetO X.w s.heap.objs.size (fun j => decide (j ∈ ns)) c), I.laid (t' := tk) (fun b u e => hk b u e) (Nat.le_refl _) (setO_new hS), rfl, q _ _ (I.hok.fresh (Nat.le_refl _)) hcl⟩
def sortSetD : D → Option (List D)
  | .tup xs => (asInts xs).bind fun ns => if ns.length < 64 then some ((sortU ns).map D.int) else none
  | _ => none
theorem sf_sortedSet {op : Opd} (hc : X.calm = true) (hg : Gl X "sorted") (hm : X.mg "sorted" = none) (hg2 : Gl X "set") (hm2 : X.mg "set" = none) (ha : SO X W op a) (na : starEach (a :: []) X.env = (false, eval a X.env) :: starEach [] X.env := by rfl)
    (nb : starEach [.Call (.Name "set" p2) [a] [] pos2] X.env = (false, eval (.Call (.Name "set" p2) [a] [] pos2) X.env) :: starEach [] X.env := by rfl)
    (hpl : (backTo pos (starEach [] X.env)).any (·.1) = false := by rfl) (hpl2 : (backTo pos2 (starEach [] X.env)).any (·.1) = false := by rfl) :
    SF X W (mop1F sortSetD op) (.Call (.Name "sorted" p) [.Call (.Name "set" p2) [a] [] pos2] [] pos) :=
  (pe_callB (cr_sortedSet hc) hg hm (by decide +kernel) (pa_cons (pe_callTy (cr_setTI hc) hg2 hm2 (by decide +kernel) (pa_cons ha pa_nil na) (by decide) (by decide) na hpl2) pa_nil nb) (by decide) (by decide) nb hpl).imp fun σ H Q ⟨F0, ρ, R, o⟩ =>
    opd1 (k := fun x => mopt (sortSetD x)) (good := gF X F0 ρ σ H Q) R (by cases op <;> exact o) fun x ρ2 v H2 R2 S2 b1 o2 => by
      obtain ⟨ds, e, q⟩ := Out.opt o2
      unfold sortSetD at e
      split at e
      · rename_i xs
        cases e1 : asInts xs with
        | none => rw [e1] at e; cases e
        | some ns =>
          rw [e1] at e
          simp only [Option.bind_some] at e
          split at e
          · rename_i h64
            cases e
            obtain ⟨l, vs, rfl, h, r⟩ := b1.v_tup
            rw [asInts_of e1] at r
            rw [reps_ints r] at h
            refine ⟨l, ns, rfl, h, h64, fun q1 c hq1 hcl => ?_⟩
            refine ⟨q1, _, c, rfl, upd_same, by omega, fun ns' l2 hp hmem _ hl2 => ?_⟩
            have en : ns' = sortU ns := pw_eq hp (sortU_pw ns) fun j => by rw [hmem, mem_sortU]; simp
            subst en
            have k1 := Same.new hq1 (SetO X.w q1 (fun j => decide (j ∈ ns)) c)
            have hn2 : H2 l2 = none := Same.free k1 hl2
            have k2 := Same.new hl2 (.lst ((sortU ns).map V.int))
            have k : Same H2 _ := fun b o e => k2 b o (k1 b o e)
            exact q l2 _ _ (R2.more k hn2 ⟨_, upd_same⟩) (S2.trans (Stp.same k)) (S2.trk l2 hn2) upd_same (Reps.ints _)
          · cases e
      · cases e
end
end Z

/-! Z: list(reversed(a tuple)) -/
namespace ZRT
open PySem PySem.Spec PyProof.Rows RT
theorem nolen_rt : typeLookup (.type "reversed") "__len__" = pure none := by rw [typeLookup_type, builtinLookup_eq_fast]; kernel_rfl
theorem hint_rt : typeLookup (.type "reversed") "__length_hint__" = pure (some (.builtin "reversed.__length_hint__")) := by rw [typeLookup_type, builtinLookup_eq_fast]; kernel_rfl
theorem tupAt {h h' : Heap} {t : Addr} {items : Array Value} (x : IsTup h t items) (k : ∀ o, h.get? t = some o → h'.get? t = some o) : IsTup h' t items := let ⟨o, ho, r⟩ := x; ⟨o, k _ ho, r⟩
theorem walks {prog : Program} {w : World} {A : Around} (hh : A.handled = none) (I t : Addr) (hne : t ≠ I) (items : Array Value) (hz : items.size ≤ sizeLine) :
    Walks prog w A I [I, t] [I] items.size (fun i v => items[items.size - 1 - i]? = some v) (fun i h => i ≤ items.size ∧ IsRt h I t ((items.size : Int) - 1 - (i : Int)) ∧ IsTup h t items) where
  sub := fun b hb => by simp at hb; simp [hb]
  frame := fun _ _ _ x hk => ⟨x.1, x.2.1.at fun o e => hk I (by simp) o e, tupAt x.2.2 fun o e => hk t (by simp) o e⟩
  item := fun i s Q E hi x hQ => by
    have e : (items.size : Int) - 1 - (i : Int) = ((items.size - 1 - i : Nat) : Int) := by omega
    have hit := x.2.1
    rw [e] at hit
    have hx : items[items.size - 1 - i]? = some (items[items.size - 1 - i]'(by omega)) := Array.getElem?_eq_getElem (by omega)
    refine next_rt_item hit x.2.2 hx hz fun h' hit' hs' => ?_
    have e2 : ((items.size - 1 - i : Nat) : Int) - 1 = (items.size : Int) - 1 - ((i + 1 : Nat) : Int) := by omega
    rw [e2] at hit'
    exact hQ _ h' (s.toks + 1) hx ⟨hi, hit', tupAt x.2.2 fun o eo => (hs'.2 t hne).trans eo⟩ fun b o hb eo => hs'.extBut b o (fun h => hb (by simp [h])) eo
  done := fun s Q E x hQ => by
    have e : (items.size : Int) - 1 - (items.size : Int) = -1 := by omega
    have hit := x.2.1
    rw [e] at hit
    exact next_rt_end hh hit fun h' he' => hQ h' s.toks fun b o hb eo => he' b o (fun h => hb (by simp [h])) eo
  self := fun _ _ _ _ x hQ => iter_rt x.2.1 hQ
theorem slot_hint : Slot "reversed" "__length_hint__" "reversed.__length_hint__" :=
  .of (n := "__length_hint__") (owner := "reversed") hint_rt (by decide +kernel) (by decide +kernel) (by decide +kernel)
    (by first | exact .inr (by decide +kernel) | exact .inl (by decide +kernel)) (by rw [isSubtype_type]; kernel_rfl)
theorem entry_hint : entryFor table "reversed.__length_hint__" = some Builtin.«reversed.__length_hint__» := entryFor_of_tree (by kernel_rfl)
theorem args_hint (a : Value) : argsOk "reversed.__length_hint__" ⟨[a], []⟩ := by
  unfold argsOk; rw [signature?_of (n := ['_', '_', 't', 'n', 'i', 'h', '_', 'h', 't', 'g', 'n', 'e', 'l', '_', '_']) (id := "reversed.__length_hint__") (o := ['d', 'e', 's', 'r', 'e', 'v', 'e', 'r']) (by kernel_rfl) owner_rt]; kernel_rfl
section
variable {prog : Program} {w : World} {A : Around} {E : Value → Shared → Prop} {s : Shared}
theorem hint_call {it t : Addr} {items : Array Value} {Q : Value → Shared → Prop} (hit : IsRt s.heap it t ((items.size : Int) - 1)) (ht : IsTup s.heap t items)
    (hlen : ∀ (A : Around) (E : Value → Shared → Prop) (Q : Value → Shared → Prop), Q (.int items.size (s.toks + 1)) { s with toks := s.toks + 1 + 1 } → wpAny (model prog w) A (call (.builtin "len") [.ref t]) Q E s)
    (h : ∀ tk tk', Q (.int items.size tk') { s with toks := tk }) : wpAny (model prog w) A (call (.builtin "reversed.__length_hint__") [.ref it]) Q E s := by
  obtain ⟨o, ho, hc, hd⟩ := id hit
  refine wpAny_call_entry slot_hint hit.typeIs entry_hint ?_ (args_hint _)
  unfold Builtin.«reversed.__length_hint__»
  refine wpAny_bind (wpAny_of_eq (a := Value.ref it) rfl ?_)
  try dsimp only
  refine wpAny_bind (wpAny_field ho hd (x := .ref t) rfl ?_)
  try dsimp only
  rw [if_neg (by simp)]
  refine wpAny_bind (hlen _ _ _ ?_)
  refine wpAny_bind (wpAny_of_eq (a := some (items.size : Int)) rfl ?_)
  try dsimp only
  refine wpAny_bind (wpAny_field (s := { s with toks := s.toks + 1 + 1 }) ho hd (x := rawInt ((items.size : Int) - 1)) rfl ?_)
  unfold rawInt
  try dsimp only
  rw [if_neg (by omega)]
  unfold retInt
  have e : (items.size : Int) - 1 + 1 = items.size := by omega
  rw [e]
  refine wpAny_bind (wpAny_mkInt ?_)
  exact wpAny_pure ⟨_, rfl, h _ _⟩
/-- l.extend(reversed(t)) of an empty l -/
theorem extend_rt {R : Result → Shared → Prop} {it t S : Addr} {items : Array Value} {res : Value} {c0 : Nat} (hh : A.handled = none) (hne : t ≠ it) (hz : items.size ≤ sizeLine) (hz2 : items.size < 1000000)
    (hit : IsRt s.heap it t ((items.size : Int) - 1)) (ht : IsTup s.heap t items) (hSt : S ≠ t) (hSi : S ≠ it)
    (hlen : ∀ (A : Around) (E : Value → Shared → Prop) (s : Shared) (Q : Value → Shared → Prop), IsTup s.heap t items → Q (.int items.size (s.toks + 1)) { s with toks := s.toks + 1 + 1 } → wpAny (model prog w) A (call (.builtin "len") [.ref t]) Q E s)
    (hS : s.heap.get? S = some { cls := .type "list", data := .seq #[] c0 })
    (hR : ∀ h' tk acc' c', (∀ b o, b ≠ S → b ≠ it → s.heap.get? b = some o → h'.get? b = some o) → h'.get? S = some { cls := .type "list", dict := none, data := .seq acc' c', slots := #[] } →
      ItemsOf (fun i v => items[items.size - 1 - i]? = some v) acc' items.size → R (.ok (.ret res)) { s with heap := h', toks := tk }) :
    wpAny (model prog w) A.in1 (Builtin.List.listExtendWith (.ref S) (.ref it) res)
      (fun fin s' => match fin with | .done f => R (.ok f) s' | .again c' => c'.quiet = true ∧ codeAny (model prog w) A c' R s') (fun e s' => R (.error e) s') s := by
  have WK := (walks (prog := prog) (w := w) (A := A.in1) hh it t hne items hz).toS
  have hT : s.TypeIs (.ref it) "reversed" := hit.typeIs
  have hns : Builtin.List.listSameRef (.ref S) (.ref it) = false := by simp [Builtin.List.listSameRef, hSi]
  unfold Builtin.List.listExtendWith
  refine wpAny_bind (wpAny_typeOf hT ?_)
  rw [if_neg (by rw [hns]; decide)]
  refine wpAny_bind (iter_rt hit ?_)
  refine wpAny_bind (wpAny_holding ?_)
  unfold Builtin.List.listLengthHint
  refine wpAny_bind (wpAny_specialOf hT nolen_rt ?_)
  show wpAny _ A.in1 (specialOf (Value.ref it) (Str.ofString "__length_hint__") >>= _) _ _ _
  refine wpAny_bind (wpAny_specialOf hT hint_rt ?_)
  generalize hid : ("reversed.__length_hint__" : String) = id0
  wp_delta
  rw [show splitId id0 = some ("reversed", "__length_hint__") from by subst hid; decide +kernel]
  subst hid
  dsimp only
  refine wpAny_bind (wpAny_isInstance (b := true) hT (by rw [isSubtype_type]; kernel_rfl) ?_)
  rw [if_neg (by decide)]
  rw [if_neg (by decide +kernel)]
  refine wpAny_bind (wpAny_rule ?_)
  rw [slot_hint.bind]
  refine wpAny_bind (wpAny_pure ?_)
  dsimp only
  refine wpAny_bind (wpAny_attempt ?_)
  refine hint_call hit ht (fun A E Q h => hlen A E s Q ht h) fun tk tk' => ?_
  have ea : ∀ (n : Int) (k : Tok), asInt? (.int n k) = pure (some n) := fun _ _ => rfl
  have fits : Builtin.List.listFitsIndex (items.size : Int) = true := by
    unfold Builtin.List.listFitsIndex
    simp only [Bool.and_eq_true, decide_eq_true_eq]
    omega
  have short : Builtin.List.listTooLong (items.size : Int).toNat = false := by
    unfold Builtin.List.listTooLong
    rw [Int.toNat_natCast]
    simpa using hz
  generalize hn : ((items.size : Nat) : Int) = n at fits short ⊢
  have hn0 : 0 ≤ n := by omega
  show wpAny _ _ (asInt? (.int n tk') >>= _) _ _ _
  rw [ea]
  refine wpAny_bind (wpAny_pure ?_)
  dsimp only
  rw [fits, short]
  rw [if_neg (by decide), if_neg (by omega), if_neg (by decide)]
  refine wpAny_pure ?_
  have hSf : S ∉ [it, t] := by simp only [List.mem_cons, List.not_mem_nil, or_false, not_or]; exact ⟨hSi, hSt⟩
  have go : ∀ (h1 : Heap) (tk c1 : Nat), h1.get? S = some { cls := .type "list", data := .seq #[] c1 } → (∀ b o, b ≠ S → s.heap.get? b = some o → h1.get? b = some o) →
      wpAny (model prog w) A.in1 (again (Code.builtin "list.extend.loop" { pos := [Value.ref S, Value.ref it, res] }))
        (fun fin s' => match fin with | .done f => R (.ok f) s' | .again c' => c'.quiet = true ∧ codeAny (model prog w) A c' R s') (fun e s' => R (.error e) s') { s with heap := h1, toks := tk } := fun h1 tk c1 e1 k1 => by
    have e0 : (items.size : Int) - 1 - ((0 : Nat) : Int) = (items.size : Int) - 1 := by omega
    refine wpAny_pure ⟨plainId_quiet F.plain_extend_loop _, codeAny_extend_loopS WK hz _ hSf _ items.size 0 _ _ _ rfl (Nat.zero_le _)
      ⟨Nat.zero_le _, by rw [e0]; exact hit.at fun o e => k1 it o (Ne.symm hSi) e, tupAt ht fun o e => k1 t o (Ne.symm hSt) e⟩ e1 (ItemsOf.nil _) fun s' acc' c' hm hS' hacc => ?_⟩
    rw [Moved.eq_with hm]
    exact hR s'.heap s'.toks acc' c' (fun b o hb1 hb2 e => hm.heap b o (fun z => (List.mem_cons.mp z).elim hb1 fun z => hb2 (List.mem_singleton.mp z)) (k1 b o hb1 e)) hS' hacc
  by_cases n0 : n = 0
  · subst n0
    rw [if_neg (by decide +kernel)]
    exact go _ _ _ hS fun b o _ e => e
  · rw [if_pos (by simp [n0])]
    refine wpAny_bind (wpAny_rule ?_)
    refine wpAny_bind ?_
    show wpAny _ A.in1 (updateSeq S (·.push .none) >>= fun _ => updateSeq S (·.pop)) _ _ _
    refine wpAny_bind (wpAny_updateSeq hS rfl ?_)
    have hS2 := Heap.get?_update_self (Obj.mapSeq (·.push Value.none)) hS rfl
    refine wpAny_updateSeq (hz := by seq_fits) hS2 rfl ?_
    have hS3 := Heap.get?_update_self (Obj.mapSeq (·.pop)) hS2 rfl
    exact go _ _ _ hS3 fun b o hb e => (Heap.get?_update_other _ _ (Ne.symm hb)).trans ((Heap.get?_update_other _ _ (Ne.symm hb)).trans e)
theorem init_rt {R : Result → Shared → Prop} {it t S : Addr} {items : Array Value} (hh : A.handled = none) (hne : t ≠ it) (hz : items.size ≤ sizeLine) (hz2 : items.size < 1000000)
    (hit : IsRt s.heap it t ((items.size : Int) - 1)) (ht : IsTup s.heap t items) (hSt : S ≠ t) (hSi : S ≠ it)
    (hlen : ∀ (A : Around) (E : Value → Shared → Prop) (s : Shared) (Q : Value → Shared → Prop), IsTup s.heap t items → Q (.int items.size (s.toks + 1)) { s with toks := s.toks + 1 + 1 } → wpAny (model prog w) A (call (.builtin "len") [.ref t]) Q E s)
    (hS : s.heap.get? S = some { cls := .type "list", data := .seq #[] })
    (hR : ∀ h' tk acc' c', (∀ b o, b ≠ S → b ≠ it → s.heap.get? b = some o → h'.get? b = some o) → h'.get? S = some { cls := .type "list", dict := none, data := .seq acc' c', slots := #[] } →
      ItemsOf (fun i v => items[items.size - 1 - i]? = some v) acc' items.size → R (.ok (.ret .none)) { s with heap := h', toks := tk }) :
    wpAny (model prog w) A.in1 (Builtin.«list.__init__» ⟨[.ref S, .ref it], []⟩)
      (fun fin s' => match fin with | .done f => R (.ok f) s' | .again c' => c'.quiet = true ∧ codeAny (model prog w) A c' R s') (fun e s' => R (.error e) s') s := by
  show wpAny _ A.in1 (do let was ← Builtin.List.listItems (.ref S); Builtin.List.listUpdate (.ref S) (fun _ => #[]); letGo was.toList.reverse; Builtin.List.listExtendWith (.ref S) (.ref it) .none) _ _ s
  refine wpAny_bind ?_
  unfold Builtin.List.listItems
  refine wpAny_bind (wpAny_seqItems hS rfl (wpAny_pure ?_))
  show wpAny _ A.in1 (updateSeq S (fun _ => #[]) >>= fun _ => letGo ([] : List Value).reverse >>= fun _ => Builtin.List.listExtendWith (.ref S) (.ref it) .none) _ _ s
  refine wpAny_bind (wpAny_updateSeq hS rfl ?_)
  have hS2 := Heap.get?_update_self (Obj.mapSeq (fun _ => (#[] : Array Value))) hS rfl
  have oth : ∀ b o, b ≠ S → s.heap.get? b = some o → (s.heap.update S (Obj.mapSeq (fun _ => (#[] : Array Value)))).get? b = some o := fun b o hb e => (Heap.get?_update_other _ _ (Ne.symm hb)).trans e
  refine wpAny_bind (wpAny_letGo ?_)
  exact extend_rt (s := { s with heap := s.heap.update S (Obj.mapSeq (fun _ => (#[] : Array Value))) }) hh hne hz hz2 (hit.at fun o e => oth it o (Ne.symm hSi) e) (tupAt ht fun o e => oth t o (Ne.symm hSt) e) hSt hSi hlen hS2
    fun h' tk acc' c' k e a => hR h' tk acc' c' (fun b o h1 h2 e => k b o h1 h2 (oth b o h1 e)) e a
theorem call_list_rt {Q : Value → Shared → Prop} {it t : Addr} {items : Array Value} (hh : A.handled = none) (hne : t ≠ it) (hz : items.size ≤ sizeLine) (hz2 : items.size < 1000000)
    (hit : IsRt s.heap it t ((items.size : Int) - 1)) (ht : IsTup s.heap t items)
    (hlen : ∀ (A : Around) (E : Value → Shared → Prop) (s : Shared) (Q : Value → Shared → Prop), IsTup s.heap t items → Q (.int items.size (s.toks + 1)) { s with toks := s.toks + 1 + 1 } → wpAny (model prog w) A (call (.builtin "len") [.ref t]) Q E s)
    (hQ : ∀ h' tk acc' c', (∀ b o, b ≠ it → s.heap.get? b = some o → h'.get? b = some o) → h'.get? s.heap.objs.size = some { cls := .type "list", dict := none, data := .seq acc' c', slots := #[] } →
      ItemsOf (fun i v => items[items.size - 1 - i]? = some v) acc' items.size → Q (.ref s.heap.objs.size) { s with heap := h', toks := tk }) :
    wpAny (model prog w) A (call (.type "list") [.ref it]) Q E s := by
  obtain ⟨oi, hoi, _⟩ := id hit
  obtain ⟨ot, hot, _⟩ := id ht
  have n1 : s.heap.objs.size ≠ it := Nat.ne_of_gt (Heap.lt_size hoi)
  have n2 : s.heap.objs.size ≠ t := Nat.ne_of_gt (Heap.lt_size hot)
  refine callType_codes (Q₁ := fun obj s₁ => obj = .ref s.heap.objs.size ∧ s₁ = { s with heap := s.heap.push { cls := .type "list", data := .seq #[] } }) F.called_list (F.typeCall_list_1 _) F.entry_list_init
    (code_list_new _ ⟨rfl, rfl⟩) fun obj s₁ h₁ => ?_
  obtain ⟨rfl, rfl⟩ := h₁
  have hS : (s.heap.push { cls := .type "list", data := .seq #[] }).get? s.heap.objs.size = some { cls := .type "list", data := .seq #[] } := Heap.get?_push_size _ rfl
  refine ⟨⟨_, hS, rfl⟩, F.args_list_init_2 _ _, ?_⟩
  refine init_rt (A := A.in1) (s := { s with heap := s.heap.push { cls := .type "list", data := .seq #[] } }) hh hne hz hz2 (hit.at fun o e => Heap.get?_push_of_some _ e) (tupAt ht fun o e => Heap.get?_push_of_some _ e) n2 n1 hlen hS fun h' tk acc' c' k e a => ?_
  exact ⟨rfl, hQ h' tk acc' c' (fun b o hb e => k b o (Nat.ne_of_lt (Heap.lt_size e)) hb (Heap.get?_push_of_some _ e)) e a⟩
end
end ZRT
namespace Z
open PySem L2 PySem.Spec PyProof.Rows RT
def tLstRev (K : PySem.W.Frag) (te : TE) : TE := fun σ H Q => te σ H fun v H1 => ∃ (a : Addr) (xs : List V), v = .ref a ∧ SqT K H1 a xs ∧ xs.length < 1000000 ∧ ∀ q, H1 q = none → Q (.ref q) (upd H1 q (.lst xs.reverse))
section
variable {X : Cx}
theorem pe_listRevT {e : Expr} {te : TE} {p p2 pos pos2 : Pos} (hc : X.calm = true) (hg : Gl X "list") (hm : X.mg "list" = none) (hg2 : Gl X "reversed") (hm2 : X.mg "reversed" = none) (he : PE X e te)
    (hs : starEach [e] X.env = (false, eval e X.env) :: starEach [] X.env := by rfl)
    (hs2 : starEach [.Call (.Name "reversed" p2) [e] [] pos2] X.env = (false, eval (.Call (.Name "reversed" p2) [e] [] pos2) X.env) :: starEach [] X.env := by rfl) :
    PE X (.Call (.Name "list" p) [.Call (.Name "reversed" p2) [e] [] pos2] [] pos) (tLstRev X.K te) := by
  refine ⟨fun pins s σ H Q I h => ?_⟩
  refine Call_ (ld_blt I hg hm boot_list (callWith_type1 (args_cons (Call_ (ld_blt I hg2 hm2 boot_reversed (callWith_type1 (args_cons (thn (he.run pins s σ H _ I h) fun u s1 ⟨v, H1, I1, r1, q1⟩ => args_nil ?_) hs) hs rfl))) hs2) hs2 rfl))
  obtain ⟨a, xs, ev, hq, hx, q⟩ := q1
  subst ev
  obtain rfl : u = Value.ref a := r1
  obtain ⟨its, rv, pt, hz⟩ := I1.tuple hq
  have hl := rv.length
  have hsz : its.toArray.size = xs.length := by rw [List.size_toArray, hl]
  have hn := line63
  have hlenT : ∀ (A : Around) (E : Value → Shared → Prop) (s : Shared) (Q : Value → Shared → Prop), IsTup s.heap a its.toArray → Q (.int its.toArray.size (s.toks + 1)) { s with toks := s.toks + 1 + 1 } → wpAny (model X.prog X.w) A (call (.builtin "len") [.ref a]) Q E s :=
    fun A E s Q t k => len_tuple t (by rw [hsz]; omega) k
  refine call_reversed_tup pt (fun A E Q k => hlenT A E s1 Q pt k) (args_nil ?_)
  have k0 : ∀ b o, s1.heap.get? b = some o → (s1.heap.push (rtObj a ((its.toArray.size : Int) - 1))).get? b = some o := fun b o e => Heap.get?_push_of_some _ e
  have I2 : Inv X pins σ H1 { s1 with heap := s1.heap.push (rtObj a ((its.toArray.size : Int) - 1)), toks := s1.toks + 1 + 1 } := I1.kept (t' := s1.toks + 1 + 1) k0
  obtain ⟨f0, f1, f2, f3, f4, f5⟩ := I1.fpOk (H' := H1) (b := s1.heap.objs.size) (Nat.le_refl _) (I1.hok.fresh (Nat.le_refl _))
  obtain ⟨oa, hoa, _⟩ := id pt
  have hne : a ≠ s1.heap.objs.size := Nat.ne_of_lt (Heap.lt_size hoa)
  refine ZRT.call_list_rt (s := { s1 with heap := s1.heap.push (rtObj a ((its.toArray.size : Int) - 1)), toks := s1.toks + 1 + 1 }) (I1.ok.hd hc) hne (by rw [hsz]; exact hz) (by rw [hsz]; exact hx) ⟨_, Heap.get?_push_size _ rfl, rfl, rfl⟩ (ZRT.tupAt pt fun o e => Heap.get?_push_of_some _ e) hlenT fun h' tk acc c k e hi => ?_
  have le : s1.heap.objs.size ≤ (s1.heap.push (rtObj a ((its.toArray.size : Int) - 1))).objs.size := by rw [Heap.size_push]; omega
  refine ⟨.ref (s1.heap.push (rtObj a ((its.toArray.size : Int) - 1))).objs.size, upd H1 (s1.heap.push (rtObj a ((its.toArray.size : Int) - 1))).objs.size (.lst xs.reverse),
    I1.laid (t' := tk) (h' := h') (fun b u eb => k b u (Nat.ne_of_lt (Heap.lt_size eb)) (k0 b u eb)) le (show ObjOk X.prog X.w _ _ _ (.lst xs.reverse) from ⟨by rw [List.length_reverse]; exact hz, acc.toList, c, vals_rev rv hi, ?_⟩), rfl, q _ (I1.hok.fresh le)⟩
  rw [Array.toArray_toList]
  exact e
/-- list(reversed(a tuple)) -/
def revL : D → Option (List D)
  | .tup xs => if xs.length < 1000000 then some xs.reverse else none
  | _ => none
theorem reps_rev {K : PySem.W.Frag} {F : Addr → Prop} {H : Hp} : ∀ {ds : List D} {vs : List V}, Reps K F H ds vs → Reps K F H ds.reverse vs.reverse
  | _, _, .nil => .nil
  | _, _, .cons h r => by
    rw [List.reverse_cons, List.reverse_cons]
    exact (reps_rev r).append (.cons h .nil)
theorem sf_listRev {W : WX} {op : Opd} {a : Expr} {p p2 pos pos2 : Pos} (hc : X.calm = true) (hg : Gl X "list") (hm : X.mg "list" = none) (hg2 : Gl X "reversed") (hm2 : X.mg "reversed" = none) (ha : SO X W op a)
    (hs : starEach [a] X.env = (false, eval a X.env) :: starEach [] X.env := by rfl)
    (hs2 : starEach [.Call (.Name "reversed" p2) [a] [] pos2] X.env = (false, eval (.Call (.Name "reversed" p2) [a] [] pos2) X.env) :: starEach [] X.env := by rfl) :
    SF X W (mop1F revL op) (.Call (.Name "list" p) [.Call (.Name "reversed" p2) [a] [] pos2] [] pos) :=
  (pe_listRevT hc hg hm hg2 hm2 ha hs hs2).imp fun σ H Q ⟨F0, ρ, R, o⟩ =>
    opd1 (k := fun x => mopt (revL x)) (good := gF X F0 ρ σ H Q) R (by cases op <;> exact o) fun x ρ2 v H2 R2 S2 b1 o2 => by
      obtain ⟨ds, e, q⟩ := Out.opt o2
      unfold revL at e
      split at e
      · rename_i xs
        split at e
        · rename_i hx
          cases e
          obtain ⟨l, vs, rfl, h, r⟩ := b1.v_tup
          refine ⟨l, vs, rfl, h, by rw [← r.length]; exact hx, fun l2 hl2 => ?_⟩
          have k := Same.new hl2 (.lst vs.reverse)
          exact q l2 _ _ (R2.more k hl2 ⟨_, upd_same⟩) (S2.trans (Stp.same k)) (S2.trk l2 hl2) upd_same (Reps.more k hl2 (reps_rev r))
        · cases e
      · cases e
end
end Z

/-! Z: a comprehension over a range while an exception is handled -/
namespace Z
open PySem PySem.Spec PyProof.Rows L2
section
variable {X : Cx} {W : WX}
theorem lcH {elt tg iter : Expr} {ifs : List Expr} {scope : Scope} {own : List (Str × Nat)} {pos : Pos} {wi : TI} {g : TG} {tt : TT} {te : TE} (hot : L2H.HotC X) (hN : X.N.Nodup) (hi : L2H.PIH X tg iter wi) (ok : BlkOk X.N X.env.scope scope own)
    (hg : ∀ (s : Shared) (H : Hp) (C : Addr) (cl : List (Str × Addr)) (fp : List Addr), PG (X.blk s H scope (compEnvC scope cl C X.env) fp) tg g) (ht : ∀ (s : Shared) (H : Hp) (C : Addr) (cl : List (Str × Addr)) (fp : List Addr), PTs (X.blk s H scope (compEnvC scope cl C X.env) fp) ifs tt)
    (he : ∀ (s : Shared) (H : Hp) (C : Addr) (cl : List (Str × Addr)) (fp : List Addr), PE (X.blk s H scope (compEnvC scope cl C X.env) fp) elt te) (fold : ∀ x, foldedSetIterable iter X.env x = pure x := by intro _; rfl) :
    PE X (.ListComp elt [⟨tg, iter, ifs, 0⟩] scope pos) (tLc wi g tt te (own.map (·.2))) := by
  refine ⟨fun pins s σ H Q I want => ?_⟩
  rw [eval_ListComp]
  obtain ⟨xp, xh, xin⟩ := hot
  have clo : ∀ y ∈ scope.names, y.2 = .free → ∃ c, X.env.cells.lookup y.1 = some c := fun y hy e => (ok.free y hy e).elim (fun k => I.ok.has _ (.inl k)) fun k => I.ok.has _ (.inr k)
  refine wpAny_comprehension_free (use := none) rfl fold (closure_ok clo) ok.kind (fun y hy e => by rw [ok.uniq y hy, e]) (thn (hi.run pins s σ H _ I want) fun _ t1 got => thn got fun _ t2 got => ?_)
  obtain ⟨it, fp, tn, J, Ha, rfl, Ia, T, sta, fpa, q⟩ := got
  refine wpAny_newObj_type (newEnv_comp ?_) (by show 0 ≤ sizeLine; decide)
  have nD : Ha t2.heap.objs.size = none := Ia.hok.fresh (Nat.le_refl _)
  obtain ⟨Wv, ⟨m0, w0⟩, turn⟩ := q _ nD
  generalize eD : t2.heap.objs.size = D at *
  generalize e3 : ({ t2 with heap := t2.heap.push { cls := .type "list", data := .seq ([] : List Value).toArray } } : Shared) = t3
  have hp3 : t3.heap = t2.heap.push { cls := .type "list", data := .seq ([] : List Value).toArray } := by rw [← e3]
  have Ib : Inv X pins σ (upd Ha D (.lst [])) t3 := by
    rw [← e3]
    exact Ia.laid (t' := t2.toks) (fun b o e => Heap.get?_push_of_some _ e) (Nat.le_of_eq eD) ⟨Nat.zero_le _, [], 0, .nil, by rw [← eD]; exact Heap.get?_push_size _ rfl⟩
  have fpb : ∀ b ∈ fp, FpOk X pins (upd Ha D (.lst [])) b ∧ b < t3.heap.objs.size := fun b hb => by
    obtain ⟨o, ob, _⟩ := T.obj _ _ sta b hb
    have small := Heap.lt_size ob
    exact ⟨⟨by rw [upd_ne (by rw [← eD]; exact Nat.ne_of_lt small)]; exact (fpa b hb).1, (fpa b hb).2⟩, by rw [hp3, Heap.size_push]; exact Nat.lt_succ_of_lt small⟩
  have stb : tn 0 t3.heap := T.keep _ _ _ sta fun b _ o e => by rw [hp3]; exact Heap.get?_push_of_some _ e
  have Ic := block_start Ib ok hN fpb
  have pg := hg t3 (upd Ha D (.lst [])) t3.heap.objs.size (cellsFrom (t3.heap.objs.size + 1) scope.names (cloFrom X.env.cells scope.names [])) fp
  have pt := ht t3 (upd Ha D (.lst [])) t3.heap.objs.size (cellsFrom (t3.heap.objs.size + 1) scope.names (cloFrom X.env.cells scope.names [])) fp
  have pe := he t3 (upd Ha D (.lst [])) t3.heap.objs.size (cellsFrom (t3.heap.objs.size + 1) scope.names (cloFrom X.env.cells scope.names [])) fp
  show codeAny _ _ (.compStart (.ListComp elt [⟨tg, iter, ifs, 0⟩] scope pos) 0 (.ref it) (.ref D) (compEnvC scope (cellsFrom (t3.heap.objs.size + 1) scope.names (cloFrom X.env.cells scope.names [])) t3.heap.objs.size X.env)) _ { t3 with heap := pushCells (t3.heap.push { cls := .type "dict", data := .dict #[] }) scope.names }
  have nfp : ∀ b ∈ fp, (upd Ha D (.lst [])) b = none := fun b hb => (fpb b hb).1.1
  have bk : ∀ b o, t3.heap.get? b = some o → (pushCells (t3.heap.push { cls := .type "dict", data := .dict #[] }) scope.names).get? b = some o := fun b o e => pushCells_keeps _ _ _ _ (Heap.get?_push_of_some _ e)
  generalize ece : compEnvC scope (cellsFrom (t3.heap.objs.size + 1) scope.names (cloFrom X.env.cells scope.names [])) t3.heap.objs.size X.env = ce at Ic pg pt pe ⊢
  have cL : ce.locals = t3.heap.objs.size := by subst ece; rfl
  generalize eHb : upd Ha D (.lst []) = Hb at Ib Ic pg pt pe w0 nfp fpb
  generalize e4 : ({ t3 with heap := pushCells (t3.heap.push { cls := .type "dict", data := .dict #[] }) scope.names } : Shared) = t4 at Ic ⊢
  have bk4 : ∀ b o, t3.heap.get? b = some o → t4.heap.get? b = some o := fun b o e => by rw [← e4]; exact bk b o e
  have stc : tn 0 t4.heap := T.keep _ _ _ stb fun b _ o e => bk4 b o e
  -- the handled exception is pinned in the block, too
  have px := Ib.pin xp (List.mem_append_left _ xin)
  have nstk : xp.1 ∉ (X.blk t3 Hb scope ce fp).fs := fun z => by
    rcases List.mem_cons.mp (Ib.stkSub xp.1 z) with z | z
    · exact px.2.2.1 z
    · exact px.2.2.2.1 z
  have Id : Inv (X.blk t3 Hb scope ce fp) [xp] (wipe σ (own.map (·.2))) Hb t4 := Ic.pins_of fun p hp => by
    obtain rfl : p = xp := by simpa using hp
    refine ⟨bk4 _ _ px.1, px.2.1, ?_, nstk, px.2.2.2.2⟩
    show p.1 ≠ ce.locals
    rw [cL]
    exact Nat.ne_of_lt (Heap.lt_size px.1)
  have stat : ∀ {σ' : L2.St} {H' : Hp} {s' : Shared}, Inv (X.blk t3 Hb scope ce fp) [xp] σ' H' s' → (∀ b ∈ fp, H' b = none) → ∀ b ∈ fp, FpOk (X.blk t3 Hb scope ce fp) [xp] H' b := fun {σ' H' s'} I' hn b hb =>
    ⟨hn b hb, (I'.ok.exf b hb).1, I'.ok.exfs b hb, .inl hb, fun x c e => (I'.ok.exf b hb).2 x c e, fun p hp => by
      obtain rfl : p = xp := by simpa using (show p ∈ ([] : List (Addr × Obj)) ++ [xp] from hp)
      exact (fpb b hb).1.2.2.2.2.2 p (List.mem_append_left _ xin)⟩
  have loop : codeAny (model X.prog X.w) X.A (.compLoop (.ListComp elt [⟨tg, iter, ifs, 0⟩] scope pos) 0 (.ref it) (.ref D) ce) (compPost (model X.prog X.w) X.A X.xe none (EP X pins σ Q) (.ref D) t3.heap.objs.size) t4 := by
    refine compLoop_any (fun n u => ∃ i H', Inv (X.blk t3 Hb scope ce fp) [xp] (wipe σ (own.map (·.2))) H' u ∧ tn i u.heap ∧ (∀ b ∈ fp, H' b = none) ∧ Wv i n H') ?_ m0 ⟨0, Hb, Id, stc, nfp, w0⟩
    rintro n u5 ⟨i, H5, I5, st5, n5, w5⟩
    obtain ⟨vsx, evx, cvx⟩ := xh.2
    rcases turn i n H5 w5 with ⟨fin, qq⟩ | ⟨more, Nx, nxt, body⟩
    · -- no element is left
      have hotb : L2H.HotC { X.blk t3 Hb scope ce fp with pn := [xp] } := ⟨xp, ⟨xh.1, vsx, evx, cvx⟩, List.mem_cons_self⟩
      have I5' : Inv { X.blk t3 Hb scope ce fp with pn := [xp] } [] (wipe σ (own.map (·.2))) H5 u5 :=
        ⟨⟨I5.ok.mod, I5.ok.kind, I5.ok.glob, I5.ok.blt, I5.ok.above, I5.ok.inj, I5.ok.has, I5.ok.cab, I5.ok.hd, I5.ok.frames, I5.ok.stk, I5.ok.exf, I5.ok.bs, I5.ok.bsz, I5.ok.noex, I5.ok.exfs, I5.ok.funs, I5.ok.frf⟩, I5.os, I5.bare, I5.base, I5.loc, I5.cell, I5.free, I5.freeC, fun p hp => I5.pin p (by simpa using hp), I5.hok, I5.len⟩
      refine thnF (T.done { X.blk t3 Hb scope ce fp with pn := [xp] } rfl rfl rfl hotb i [] u5 _ H5 (fun _ _ => False) I5' (fun b hb => by
        obtain ⟨a1, a2, a3, a4, a5, a6⟩ := stat I5 n5 b hb
        exact ⟨a1, a2, a3, a4, a5, fun p hp => a6 p (by simpa using hp)⟩) st5 fin) fun r u6 ⟨hr, I6⟩ => ?_
      subst hr
      have I7 : Inv X pins σ H5 u6 := Ib.call' (ch := fp) I6.os I6.base I6.hok I6.bare fun b hb => ⟨(fpb b hb).1.2.2.2.1, (fpb b hb).1.2.1, (fpb b hb).1.2.2.2.2.1, (fpb b hb).1.2.2.2.2.2⟩
      have nC : H5 t3.heap.objs.size = none := by rw [← cL]; exact I6.free
      obtain ⟨m, hn, _⟩ := I6.loc
      have hn : u6.heap.Ns ce.locals m := hn
      rw [cL] at hn
      obtain ⟨f0, f1, f2, f3, f4, f5⟩ := Ib.fpOk (b := t3.heap.objs.size) (Nat.le_refl _) nC
      exact ⟨m, hn, fun h'' sb => ⟨.ref D, H5, I7.turned (t' := u6.toks) (fun b o hb e => (sb.2 b hb).trans e) f0 f1 f3 f4 f5, rfl, qq⟩⟩
    · -- one more
      have I5' : Inv { X.blk t3 Hb scope ce fp with pn := [xp] } [] (wipe σ (own.map (·.2))) H5 u5 :=
        ⟨⟨I5.ok.mod, I5.ok.kind, I5.ok.glob, I5.ok.blt, I5.ok.above, I5.ok.inj, I5.ok.has, I5.ok.cab, I5.ok.hd, I5.ok.frames, I5.ok.stk, I5.ok.exf, I5.ok.bs, I5.ok.bsz, I5.ok.noex, I5.ok.exfs, I5.ok.funs, I5.ok.frf⟩, I5.os, I5.bare, I5.base, I5.loc, I5.cell, I5.free, I5.freeC, fun p hp => I5.pin p (by simpa using hp), I5.hok, I5.len⟩
      have hotb : L2H.HotC { X.blk t3 Hb scope ce fp with pn := [xp] } := ⟨xp, ⟨xh.1, vsx, evx, cvx⟩, List.mem_cons_self⟩
      refine thnF (T.item { X.blk t3 Hb scope ce fp with pn := [xp] } rfl rfl rfl hotb i [] u5 _ H5 (fun _ _ => False) I5' (fun b hb => by
        obtain ⟨a1, a2, a3, a4, a5, a6⟩ := stat I5 n5 b hb
        exact ⟨a1, a2, a3, a4, a5, fun p hp => a6 p (by simpa using hp)⟩) st5 more) fun r u6 ⟨u, hr, next⟩ => ?_
      subst hr
      refine thnF next fun _ u7 ⟨x, H7, I7, r7, y7, st7, n7⟩ => ?_
      have I7 : Inv (X.blk t3 Hb scope ce fp) [xp] (wipe σ (own.map (·.2))) H7 u7 :=
        ⟨⟨I7.ok.mod, I7.ok.kind, I7.ok.glob, I7.ok.blt, I7.ok.above, I7.ok.inj, I7.ok.has, I7.ok.cab, I7.ok.hd, I7.ok.frames, I7.ok.stk, I7.ok.exf, I7.ok.bs, I7.ok.bsz, I7.ok.noex, I7.ok.exfs, I7.ok.funs, I7.ok.frf⟩, I7.os, I7.bare, I7.base, I7.loc, I7.cell, I7.free, I7.freeC, fun p hp => I7.pin p (by simpa using hp), I7.hok, I7.len⟩
      have Ip := I7.pinned (stat I7 n7) (T.obj _ _ st7)
      refine thnF (pg.run _ u7 _ H7 x u _ Ip r7 (body x H7 y7)) fun _ u8 ⟨σ8, H8, I8, hw8, q8⟩ => ?_
      refine thnF (pt.run _ u8 σ8 H8 _ I8 q8) fun b u9 ⟨H9, I9, q9⟩ => ?_
      have close : ∀ {u' : Shared} {H' : Hp}, Inv (X.blk t3 Hb scope ce fp) ([xp] ++ pinsAt fp u7.heap) σ8 H' u' → Nx H' → ∃ m, m < n ∧ ∃ i H', Inv (X.blk t3 Hb scope ce fp) [xp] (wipe σ (own.map (·.2))) H' u' ∧ tn i u'.heap ∧ (∀ b ∈ fp, H' b = none) ∧ Wv i m H' := fun {u' H'} I' nx => by
        obtain ⟨m', hm, w'⟩ := nxt H' nx
        have pin' : ∀ b ∈ fp, ∀ o, u7.heap.get? b = some o → u'.heap.get? b = some o ∧ H' b = none := fun b hb o e =>
          ⟨(I'.pin (b, o) (List.mem_append_right _ (List.mem_append_right _ (mem_pinsAt hb e)))).1, (I'.pin (b, o) (List.mem_append_right _ (List.mem_append_right _ (mem_pinsAt hb e)))).2.1⟩
        refine ⟨m', hm, i + 1, H', (I'.unpinned (pins := [xp])).weak (by rw [← hw8, wipe_length]) (fun j v e => ?_), T.keep _ _ _ st7 fun b hb o e => (pin' b hb o e).1, fun b hb => ?_, w'⟩
        · rw [← hw8] at e
          exact (wipe_some e).1
        · obtain ⟨o, e, _⟩ := T.obj _ _ st7 b hb
          exact (pin' b hb o e).2
      cases b with
      | false =>
        rw [if_neg (by decide)] at q9
        show ∃ m, _
        exact close I9 q9
      | true =>
        rw [if_pos rfl] at q9
        show wpAny _ _ _ _ _ _
        exact thnF (pe.run _ u9 σ8 H9 _ I9 q9) fun z u10 ⟨yv, H10, I10, r10, acc, hD10, hz10, nx⟩ => app_ok (X := X.blk t3 Hb scope ce fp) I10 hD10 hz10 r10 fun u11 I11 => close I11 nx
  exact codeAny_compStart_list loop (T.self X.A 0 _ _ _ stc loop)
/-- the iterable: a range, what is handed to it read first -/
abbrev SIH (X : Cx) (W : WX) (f : M (List D)) (tg iter : Expr) : Prop := L2H.PIH X tg iter (tI X W f)
theorem sih_range1 {f : M (List D)} {tg a : Expr} {p pos : Pos} (hg : Gl X "range") (hm : X.mg "range" = none) (ha : SA X W f [a]) (hs : starEach [a] X.env = [(false, eval a X.env)] := by rfl) : SIH X W (mrng rng1 f) tg (.Call (.Name "range" p) [a] [] pos) := by
  refine ⟨fun pins s σ H Rk I ⟨F0, ρ, R, o⟩ => (L2H.pi_range1H hg hm ha hs).run pins s σ H Rk I ?_⟩
  refine seqA R o fun xs ρ1 vs H1 R1 S1 r1 o1 => ?_
  obtain ⟨ds, e, q⟩ := Out.opt o1
  unfold rng1 at e
  split at e
  · split at e
    · rename_i hz; cases e
      cases r1 with
      | cons h r => cases r; rw [h.v_int]; exact ⟨_, rfl, hz.1, hz.2, q _ H1 R1 S1 (iters_range _ _)⟩
    · cases e
  · cases e
theorem sf_compH {elt tg iter : Expr} {ifs : List Expr} {scope : Scope} {own : List (Str × Nat)} {pos : Pos} {f : M (List D)} {t : D → M Unit} {p : M Bool} {g : M D} (hot : L2H.HotC X) (hN : X.N.Nodup) (hi : SIH X W f tg iter) (ok : BlkOk X.N X.env.scope scope own)
    (hg : ∀ (s : Shared) (H : Hp) (C : Addr) (cl : List (Str × Addr)) (fp : List Addr), SG (X.blk s H scope (compEnvC scope cl C X.env) fp) (own.map (·.2)) t tg) (ht : ∀ (s : Shared) (H : Hp) (C : Addr) (cl : List (Str × Addr)) (fp : List Addr), PTs (X.blk s H scope (compEnvC scope cl C X.env) fp) ifs (tT (X.blk s H scope (compEnvC scope cl C X.env) fp) W0 p))
    (he : ∀ (s : Shared) (H : Hp) (C : Addr) (cl : List (Str × Addr)) (fp : List Addr), SE (X.blk s H scope (compEnvC scope cl C X.env) fp) W0 g elt) (hs : ∀ x, foldedSetIterable iter X.env x = pure x := by intro _; rfl) :
    SF X W (mcomp (own.map (·.2)) f t p g) (.ListComp elt [⟨tg, iter, ifs, 0⟩] scope pos) :=
  (lcH (g := tG X (jsOf own) t) (tt := tT X W0 p) (te := tE X W0 g) hot hN hi ok hg ht he hs).imp comp_of
end
end Z

/-! Z: tuple * int for every number, is True, is False -/
namespace Z
open PySem PySem.Spec PyProof.Rows L2
/-- once: the same tuple -/
theorem tupOnce (l : Addr) (items : Array Value) (n : Nat) (dd : Option Addr) (sl : Array (Option Value)) (u : Tok) :
    Meets (Builtin.«tuple.__mul__» ⟨[.ref l, .int 1 u], []⟩) (fun _ R s => s.heap.get? l = some { cls := .type "tuple", dict := dd, data := .seq items n, slots := sl } ∧ R (.ok (.ret (.ref l))) s) :=
  .of_wp fun prog w A R s h => by
    obtain ⟨hp, g, d, tk, os⟩ := s
    obtain ⟨hl, h⟩ := h
    have f1 := AutoSeq1.idx_int
    wp_walk using wpAny_loadPart' hl
    repeat (first
      | (refine wpAny_ite_false (decide_eq_false (by decide)) ?_; wp_walk using wpAny_loadPart' hl)
      | (refine wpAny_ite_true (decide_eq_true (by simp)) ?_; wp_walk using wpAny_loadPart' hl))
    all_goals exact ⟨_, rfl, h⟩
/-- not at all: an empty one -/
theorem tupNone (l : Addr) (items : Array Value) (n : Nat) (dd : Option Addr) (sl : Array (Option Value)) (k : Int) (u : Tok) (c0 : (decide (k < -(2 ^ 63)) || decide (k ≥ 2 ^ 63)) = false) (c1 : (items.isEmpty || k == 1) = false) (c2 : (decide (k ≤ 0) || items.isEmpty) = true) :
    Meets (Builtin.«tuple.__mul__» ⟨[.ref l, .int k u], []⟩) (fun _ R s => s.heap.get? l = some { cls := .type "tuple", dict := dd, data := .seq items n, slots := sl } ∧
      R (.ok (.ret (Value.ref s.heap.objs.size))) { s with heap := s.heap.push { cls := Value.type "tuple", data := Data.seq #[] }, toks := s.toks }) :=
  .of_wp fun prog w A R s h => by
    obtain ⟨hp, g, d, tk, os⟩ := s
    obtain ⟨hl, h⟩ := h
    have f1 := AutoSeq1.idx_int
    wp_walk using wpAny_loadPart' hl
    repeat (first
      | (refine wpAny_ite_false (decide_eq_false (by rw [c0]; exact Bool.false_ne_true)) ?_; wp_walk using wpAny_loadPart' hl)
      | (refine wpAny_ite_false (decide_eq_false (by rw [c1]; exact Bool.false_ne_true)) ?_; wp_walk using wpAny_loadPart' hl)
      | (refine wpAny_ite_true (decide_eq_true (by rw [c2])) ?_; wp_walk using wpAny_loadPart' hl))
    all_goals exact ⟨_, rfl, h⟩
/-- a tuple that is not empty, so many times; few times alone -/
def rRepA (K : PySem.W.Frag) : R2 := fun x y H Q => ∃ l k xs, x = .ref l ∧ y = .int k ∧ SqT K H l xs ∧ xs ≠ [] ∧ ((k = 1 ∧ Q (.ref l) H) ∨ (-1000000 ≤ k ∧ k ≤ 0 ∧ ∀ p, H p = none → Q (.ref p) (upd H p (.tup []))))
section
variable {X : Cx} {W : WX}
theorem op_repA : OpR X (binaryOp .Mult) (rRepA X.K) := by
  intro pins s σ H x y v u Q I rx ry h
  obtain ⟨l, k, xs, rfl, rfl, hT, hne, q⟩ := h
  cases rx
  obtain ⟨t, rfl⟩ := ry
  obtain ⟨its, r, ⟨⟨cls, dd, data, sl⟩, ho, hc, n, hd⟩, hs⟩ := I.tuple hT
  simp only at hc hd
  subst hc hd
  have hi : its.toArray.isEmpty = false := by
    cases its with
    | nil =>
      have : xs.length = 0 := r.length
      exact absurd (List.eq_nil_of_length_eq_zero this) hne
    | cons a b => rfl
  rcases q with ⟨rfl, q⟩ | ⟨h1, h2, q⟩
  · refine wpAny_binaryOp_repeat_ref (T := "tuple") (U := "int") (by decide) ⟨_, ho, rfl⟩ (fun s' => typeIs_int s' 1 t) noFill_tuple_mul F.fills_int_mul F.slot_int_rmul repeat_tuple F.slot_int_index.lookup
      (call_meets F.slot_int_rmul (typeIs_int s 1 t) F.entry_int_rmul (F.args_int_rmul_2 _ _) (int_rmul_tuple 1 t l its.toArray n dd sl)
        ⟨ho, rfl, ⟨_, ho, rfl⟩, call_meets F.slot_tuple_mul ⟨_, ho, rfl⟩ F.entry_tuple_mul (F.args_tuple_mul_2 _ _) (tupOnce l its.toArray n dd sl t) ⟨ho, ?_⟩⟩)
    exact ⟨.ref l, H, I, rfl, q⟩
  · refine wpAny_binaryOp_repeat_ref (T := "tuple") (U := "int") (by decide) ⟨_, ho, rfl⟩ (fun s' => typeIs_int s' k t) noFill_tuple_mul F.fills_int_mul F.slot_int_rmul repeat_tuple F.slot_int_index.lookup
      (call_meets F.slot_int_rmul (typeIs_int s k t) F.entry_int_rmul (F.args_int_rmul_2 _ _) (int_rmul_tuple k t l its.toArray n dd sl)
        ⟨ho, rfl, ⟨_, ho, rfl⟩, call_meets F.slot_tuple_mul ⟨_, ho, rfl⟩ F.entry_tuple_mul (F.args_tuple_mul_2 _ _) (tupNone l its.toArray n dd sl k t
          (by rw [decide_eq_false (by omega), decide_eq_false (by omega)] <;> rfl) (by rw [hi, Bool.false_or]; exact beq_eq_false_iff_ne.mpr (by omega)) (by rw [decide_eq_true h2]; rfl)) ⟨ho, ?_⟩⟩)
    exact ⟨.ref s.heap.objs.size, _, I.laid (t' := s.toks) (o := .tup []) (fun b ob q => Heap.get?_push_of_some _ q) (Nat.le_refl _) ⟨Nat.zero_le _, [], .nil, IsTup.new _ _⟩, rfl, q _ (I.hok.fresh (Nat.le_refl _))⟩
abbrev rMulA (K : PySem.W.Frag) : R2 := fun x y H Q => rI CMul (fun i j => V.int (i * j)) x y H Q ∨ (fun x y H Q => rRepA K x y H Q ∨ rRepT K x y H Q) x y H Q
theorem op_mulA : OpR X (binaryOp .Mult) (rMulA X.K) := op_mul.or (op_repA.or op_repT)
def mulAD : D → D → Option D
  | .int i, .int j => if mulOk i j = true then some (.int (i * j)) else none
  | .tup xs, .int k => if xs ≠ [] ∧ -1000000 ≤ k ∧ k ≤ 1000 ∧ xs.length ≤ 1000 then some (.tup (List.replicate k.toNat xs).flatten) else none
  | _, _ => none
theorem reps_flat {K : PySem.W.Frag} {F : Addr → Prop} {H : Hp} {ds : List D} {vs : List V} (r : Reps K F H ds vs) : ∀ n, Reps K F H (List.replicate n ds).flatten (List.replicate n vs).flatten
  | 0 => .nil
  | n + 1 => by
    rw [List.replicate_succ, List.replicate_succ, List.flatten_cons, List.flatten_cons]
    exact r.append (reps_flat r n)
theorem sem_mulA : Sem2 X (rMulA X.K) mulAD := fun {F H x y z v u Q} al rx ry e q => by
  unfold mulAD at e
  split at e
  · exact .inl (sem_mul al rx ry e q)
  · split at e
    · rename_i i j hh
      cases e
      obtain ⟨hne, h1, h2, h3⟩ := hh
      have rx' : Rep X.K F H (.tup _) v := rx
      obtain ⟨a, vs, rfl, ha, ra⟩ := rx.v_tup
      have hv : vs ≠ [] := fun z => by subst z; cases ra; exact hne rfl
      by_cases hk1 : j = 1
      · subst hk1
        refine .inr (.inl ⟨a, 1, vs, rfl, ry.v_int, ha, hv, .inl ⟨rfl, q _ _ (Same.refl _) ?_⟩⟩)
        simpa using rx'
      · by_cases hk0 : j ≤ 0
        · refine .inr (.inl ⟨a, j, vs, rfl, ry.v_int, ha, hv, .inr ⟨h1, hk0, fun p hp => q _ _ (Same.new hp _) ?_⟩⟩)
          have e0 : j.toNat = 0 := by omega
          rw [e0]
          exact rep_newT al hp .nil
        · refine .inr (.inr ⟨a, j, vs, rfl, ry.v_int, ha, hv, by omega, h2, by rw [← ra.length]; exact h3, fun p hp => q _ _ (Same.new hp _) ?_⟩)
          exact rep_newT al hp (reps_flat ra _)
    · cases e
  · cases e
/-! ### is None, is True, is False -/
def rIsA : R2 := fun x y H Q => ((y = .non ∧ Q (.bl (decide (x = .non))) H) ∨ ∃ b : Bool, y = .bl b ∧ Q (.bl (decide (x = .bl b))) H)
def rIsNotA : R2 := fun x y H Q => ((y = .non ∧ Q (.bl (!decide (x = .non))) H) ∨ ∃ b : Bool, y = .bl b ∧ Q (.bl (!decide (x = .bl b))) H)
theorem is_bool_gen {M : Model} {A : Around} {E : Value → Shared → Prop} {s : Shared} {Q : Value → Shared → Prop} {v : Value} {b : Bool} (hv : ∀ i, v ≠ .builtin i) (h : Q (.bool (v == .bool b)) s) : wpAny M A (compareOp .Is v (.bool b)) Q E s := by
  cases v <;> first | exact wpAny_pure h | exact absurd rfl (hv _)
theorem isnot_bool_gen {M : Model} {A : Around} {E : Value → Shared → Prop} {s : Shared} {Q : Value → Shared → Prop} {v : Value} {b : Bool} (hv : ∀ i, v ≠ .builtin i) (h : Q (.bool (!(v == .bool b))) s) : wpAny M A (compareOp .IsNot v (.bool b)) Q E s := by
  cases v <;> first | exact wpAny_pure h | exact absurd rfl (hv _)
theorem relV_blt {x : V} {v : Value} (r : RelV x v) : ∀ i, v ≠ .builtin i := by
  intro i
  cases x <;> first
    | (obtain ⟨t, rfl⟩ := r; exact fun z => Value.noConfusion z)
    | (cases r; exact fun z => Value.noConfusion z)
theorem relV_bool {x : V} {v : Value} {b : Bool} (r : RelV x v) : (v == Value.bool b) = decide (x = V.bl b) := by
  cases x <;> first
    | (cases r; first | rfl | (rename_i c; cases b <;> cases c <;> rfl))
    | (obtain ⟨t, rfl⟩ := r; rfl)
theorem op_isA : OpR X (compareOp .Is) rIsA := by
  intro pins s σ H x y v u Q I rx ry h
  rcases h with ⟨rfl, q⟩ | ⟨b, rfl, q⟩
  · exact op_isN pins s σ H x _ v u Q I rx ry ⟨rfl, q⟩
  · cases (show u = Value.bool b from ry)
    exact is_bool_gen (relV_blt rx) (fin_bl I q (relV_bool rx).symm)
theorem op_isNotA : OpR X (compareOp .IsNot) rIsNotA := by
  intro pins s σ H x y v u Q I rx ry h
  rcases h with ⟨rfl, q⟩ | ⟨b, rfl, q⟩
  · exact op_notN pins s σ H x _ v u Q I rx ry ⟨rfl, q⟩
  · cases (show u = Value.bool b from ry)
    exact isnot_bool_gen (relV_blt rx) (fin_bl I q (by rw [relV_bool rx]))
def isAD : D → D → Option D
  | x, .non => isND x .non
  | .bl a, .bl b => some (.bl (decide (a = b)))
  | _, .bl _ => some (.bl false)
  | _, _ => none
def isNotAD : D → D → Option D
  | x, .non => notND x .non
  | .bl a, .bl b => some (.bl (!decide (a = b)))
  | _, .bl _ => some (.bl true)
  | _, _ => none
theorem nbl {K : PySem.W.Frag} {F : Addr → Prop} {H : Hp} {x : D} {v : V} {b : Bool} (rx : Bor K F H x v) (hx : ∀ a, x ≠ .bl a) : decide (v = V.bl b) = false := by
  cases x with
  | bl a => exact absurd rfl (hx a)
  | non => rw [rx.v_non]; rfl
  | int i => rw [rx.v_int]; rfl
  | str i => rw [rx.v_str]; rfl
  | tup i => obtain ⟨a, vs, rfl, _⟩ := rx.v_tup; rfl
  | dik k i => obtain ⟨a, vs, rfl, _⟩ := rx; rfl
  | dit k i => obtain ⟨a, vs, rfl, _⟩ := rx; rfl
  | lst i => obtain ⟨a, rfl⟩ : ∃ a, v = .ref a := by first | (obtain ⟨a, vs, e, _⟩ := rx.v_lst; exact ⟨a, e⟩) | (obtain ⟨a, e⟩ := rx.v_lst; exact ⟨a, e⟩)
             rfl
  | kls i => obtain ⟨a, rfl⟩ : ∃ a, v = .ref a := by first | (obtain ⟨a, vs, e, _⟩ := rx.v_kls; exact ⟨a, e⟩) | (obtain ⟨a, e⟩ := rx.v_kls; exact ⟨a, e⟩)
             rfl
theorem sem_isA : Sem2 X rIsA isAD := fun {F H x y z v u Q} al rx ry e q => by
  unfold isAD at e
  split at e
  · exact .inl (sem_isN al rx ry e q)
  · cases e
    refine .inr ⟨_, ry.v_bl, ?_⟩
    rw [rx.v_bl]
    have := q (.bl _) H (Same.refl _) (.bl _)
    simpa using this
  · rename_i hx
    cases e
    refine .inr ⟨_, ry.v_bl, ?_⟩
    rw [nbl rx (fun a z => hx a z)]
    exact q _ _ (Same.refl _) (.bl _)
  · cases e
theorem sem_isNotA : Sem2 X rIsNotA isNotAD := fun {F H x y z v u Q} al rx ry e q => by
  unfold isNotAD at e
  split at e
  · exact .inl (sem_notN al rx ry e q)
  · cases e
    refine .inr ⟨_, ry.v_bl, ?_⟩
    rw [rx.v_bl]
    have := q (.bl _) H (Same.refl _) (.bl _)
    simpa using this
  · rename_i hx
    cases e
    refine .inr ⟨_, ry.v_bl, ?_⟩
    rw [nbl rx (fun a z => hx a z)]
    exact q _ _ (Same.refl _) (.bl _)
  · cases e
end
end Z

/-! Z: more methods: extend, index, bit_length, join; a, b = c, d -/
namespace Z
open PySem L2
section
variable {X : Cx} {W : WX} {pos apos cpos : Pos}
/-! ### xs.extend(ys) -/
def extD (ds : List D) : D → Option (D × List D)
  | .lst xs => if ds.length + xs.length ≤ 16777216 then some (.non, ds ++ xs) else none
  | _ => none
theorem sem_ext : SemM1 X rExtend extD := fun {F H a ds vs x v z Q} h rs rx e q => by
  unfold extD at e
  split at e
  · split at e
    · rename_i hz; cases e
      obtain ⟨b, us, rfl, hb, rb⟩ := rx.bor.v_lstH
      exact ⟨a, b, vs, us, rfl, rfl, h, hb, by rw [← rs.length, ← rb.length, sizeLine_eq]; exact hz, q _ _ (rs.append rb) .non⟩
    · cases e
  · cases e
/-! ### a method of a value that is read, with one argument -/
def mgrd (b : Bool) : M Unit := if b = true then mpure () else mbad
def mbm (isT : D → Bool) (sem : D → D → Option D) : Opd → M D → M D
  | .val f, g => mbind f fun x => mbind (mgrd (isT x)) fun _ => mbind g fun y => mopt (sem x y)
  | .slot i, g => mbind (mget i) fun x => mbind (mgrd (isT x)) fun _ => mbind g fun y => mbind (mget i) fun x => mopt (sem x y)
theorem grd_of {F0 : Addr → Prop} {ρ ρ1 : En} {σ : St} {H : Hp} {α : Type} {good : α → En → Prop} {b : Bool} {k : Unit → M α} (o : Out X W F0 ρ σ H good (mbind (mgrd b) k ρ1)) : b = true ∧ Out X W F0 ρ σ H good (k () ρ1) := by
  cases b with
  | true => exact ⟨rfl, o⟩
  | false => exact o.elim
theorem bm_of {T : String} {r : V → List V → Hp → VK → Prop} {isT : D → Bool} {sem : D → D → Option D} (ty : ∀ {F : Addr → Prop} {H : Hp} {x : D} {v : V}, isT x = true → Bor X.K F H x v → tyV X.K T v H) (h : Sem2 X (fun x y H Q => r x [y] H Q) sem) {p : Opd} {g : M D} :
    ∀ σ H Q, tE X W (mbm isT sem p g) σ H Q → tBM X.K T r (tO X W p) (tCons (tE X W g) tNil) σ H Q := fun σ H Q ⟨F0, ρ, R, o⟩ => by
  cases p with
  | val f =>
    refine seqE R o fun x ρ1 v H1 R1 S1 r1 o1 => ?_
    obtain ⟨b1, o1⟩ := grd_of o1
    refine ⟨ty b1 r1.bor, seqE R1 o1 fun y ρ2 u H2 R2 S2 r2 o2 => ?_⟩
    obtain ⟨z, e, q⟩ := Out.opt o2
    exact h R2.fav_alc (S2.rep r1).bor r2.bor e fun w H3 k r3 => q w H3 (R2.same k) (S1.trans (S2.trans (Stp.same k))) r3
  | slot i =>
    obtain ⟨v, x, e1, b1, o1⟩ := get_at R o
    obtain ⟨t1, o1⟩ := grd_of o1
    refine ⟨_, e1, ty t1 b1, seqE R o1 fun y ρ2 u H2 R2 S2 r2 o2 => ?_⟩
    obtain ⟨v', x', e1', b1', o3⟩ := get_at R2 o2
    rw [e1] at e1'; cases e1'
    obtain ⟨z, e, q⟩ := Out.opt o3
    exact h R2.fav_alc b1' r2.bor e fun w H3 k r3 => q w H3 (R2.same k) (S2.trans (Stp.same k)) r3
def isLs : D → Bool
  | .lst _ => true
  | .kls _ => true
  | _ => false
theorem ty_ls {F : Addr → Prop} {H : Hp} {x : D} {v : V} (h : isLs x = true) (b : Bor X.K F H x v) : tyV X.K "list" v H := by
  cases x with
  | lst ds => obtain ⟨a, vs, rfl, e, _⟩ := b.v_lst; exact .inl ⟨rfl, _, e⟩
  | kls ds => obtain ⟨a, vs, rfl, e, _⟩ := b.v_kls; exact .inl ⟨rfl, _, e⟩
  | non => cases h
  | bl b => cases h
  | int b => cases h
  | str b => cases h
  | tup b => cases h
  | dik k b => cases h
  | dit k b => cases h
def isSt : D → Bool
  | .str _ => true
  | _ => false
theorem ty_st {F : Addr → Prop} {H : Hp} {x : D} {v : V} (h : isSt x = true) (b : Bor X.K F H x v) : tyV X.K "str" v H := by
  cases x with
  | str s => rw [b.v_str]; rfl
  | non => cases h
  | bl b => cases h
  | int b => cases h
  | lst b => cases h
  | kls b => cases h
  | tup b => cases h
  | dik k b => cases h
  | dit k b => cases h
/-! ### xs.index(y) -/
def ixOf (y : PyData) : List PyData → Option Nat
  | [] => none
  | z :: r => if PyData.eqv z y = true then some 0 else (ixOf y r).map (· + 1)
theorem ixOf_some {y : PyData} : ∀ {ds : List PyData} {j : Nat}, ixOf y ds = some j → (∃ z, ds[j]? = some z ∧ PyData.eqv z y = true) ∧ ∀ (m : Nat) (z' : PyData), m < j → ds[m]? = some z' → PyData.eqv z' y = false
  | [], j, e => by cases e
  | z :: r, j, e => by
    unfold ixOf at e
    split at e
    · rename_i h; cases e
      exact ⟨⟨z, rfl, h⟩, fun m z' hm => absurd hm (Nat.not_lt_zero _)⟩
    · rename_i h
      cases e2 : ixOf y r with
      | none => rw [e2] at e; cases e
      | some k =>
        rw [e2] at e; cases e
        obtain ⟨⟨z2, h1, h2⟩, h3⟩ := ixOf_some e2
        refine ⟨⟨z2, h1, h2⟩, fun m z' hm hz => ?_⟩
        cases m with
        | zero => cases hz; simpa using h
        | succ m => exact h3 m z' (Nat.lt_of_succ_lt_succ hm) hz
def indexD (x y : D) : Option D := match x with
  | .lst xs => if shp (.lst xs) = true ∧ shp y = true then (ixOf (toPy y) (toPys xs)).map fun j => .int (j : Nat) else none
  | _ => none
theorem sem_index : Sem2 X (fun x y H Q => rIndexD X.K x [y] H Q) indexD := fun {F H x y z v u Q} al rx ry e q => by
  unfold indexD at e
  split at e
  · rename_i xs
    split at e
    · rename_i hh
      obtain ⟨h1, h2⟩ := hh
      cases e2 : ixOf (toPy y) (toPys xs) with
      | none => rw [e2] at e; cases e
      | some j =>
        rw [e2] at e; cases e
        obtain ⟨⟨z2, g1, g2⟩, g3⟩ := ixOf_some e2
        have dx : Dp X.K H v (toPy (.lst xs)) := rx.dp h1
        have dy : Dp X.K H u (toPy y) := ry.dp h2
        obtain ⟨a, vs, rfl, _, _⟩ := rx.v_lst
        exact ⟨a, u, toPy y, toPys xs, j, z2, rfl, rfl, dx, dy, h1, h2, g1, g2, g3, q _ _ (Same.refl _) (.int _)⟩
    · cases e
  · cases e
theorem se_index {e e2 : Expr} {p : Opd} {g : M D} (hu : X.A.units + 65 < cLine) (hp : SO X W p e) (hg : SE X W g e2)
    (hbase : attributeBase e "index" X.env (eval e X.env) = eval e X.env := by rfl)
    (hfew : ((backTo cpos (starEach (e2 :: []) X.env)).all (fun x => !x.1) && (backToKw cpos (keywordEach [] X.env)).all (fun x => x.1.isSome)
      && decide ((e2 :: ([] : List Expr)).length + ([] : List Keyword).length + (if ([] : List Keyword).isEmpty then 0 else 1) < 30)) = true := by rfl)
    (hline : (apos.endLine == cpos.line) = true := by rfl) (hs : starEach (e2 :: []) X.env = (false, eval e2 X.env) :: starEach [] X.env := by rfl) (hplain : (backTo cpos (starEach ([] : List Expr) X.env)).any (·.1) = false := by rfl) :
    SE X W (mbm isLs indexD p g) (.Call (.Attribute e "index" apos) [e2] [] cpos) :=
  (pe_bm PySem.F.plainAttrs_list PySem.F.slot_list_index PySem.F.type_list_index (mt_indexD hu) hp (pa_cons hg pa_nil hs) hbase hfew hline hs hplain).imp (bm_of ty_ls sem_index)
/-! ### sep.join(texts) -/
def asStrs : List D → Option (List Str)
  | [] => some []
  | .str s :: r => (asStrs r).map (s :: ·)
  | _ => none
theorem asStrs_reps {K : PySem.W.Frag} {F : Addr → Prop} {H : Hp} : ∀ {ds : List D} {vs : List V} {ys : List Str}, Reps K F H ds vs → asStrs ds = some ys → vs = ys.map V.str
  | _, _, _, .nil, e => by cases e; rfl
  | d :: ds, v :: vs, ys, .cons h r, e => by
    cases d with
    | str s =>
      simp only [asStrs] at e
      cases e2 : asStrs ds with
      | none => rw [e2] at e; cases e
      | some zs =>
        rw [e2] at e; cases e
        rw [h.v_str, asStrs_reps r e2]; rfl
    | non => cases e
    | bl b => cases e
    | int b => cases e
    | lst b => cases e
    | kls b => cases e
    | tup b => cases e
    | dik k b => cases e
    | dit k b => cases e
def joinD (x y : D) : Option D := match x, y with
  | .str a, .lst ds => (asStrs ds).bind fun ys => if (ys.map (·.length)).sum + ys.length * a.length ≤ 16777216 then some (.str (PySem.Txt.join a ys)) else none
  | .str a, .tup ds => (asStrs ds).bind fun ys => if (ys.map (·.length)).sum + ys.length * a.length ≤ 16777216 then some (.str (PySem.Txt.join a ys)) else none
  | _, _ => none
/-! ### n.bit_length() -/
def bitsD : D → Option D
  | .int i => some (.int (Builtin.Int.intBits i : Nat))
  | _ => none
theorem sem_bits : Sem1 X (fun v H Q => ∃ i : Int, v = .int i ∧ Q (.int (Builtin.Int.intBits i : Nat)) H) bitsD := fun {F H x z v Q} al r e q => by
  cases x <;> cases e
  exact ⟨_, r.v_int, q _ _ (Same.refl _) (.int _)⟩
theorem se_bits {o : Expr} {p : Opd} (ho : SO X W p o) (hbase : attributeBase o "bit_length" X.env (eval o X.env) = eval o X.env := by rfl) (hline : (apos.endLine == pos.line) = true := by rfl) : SE X W (mop1 bitsD p) (.Call (.Attribute o "bit_length" apos) [] [] pos) :=
  (pe_bits ho hbase hline).imp (op1_of sem_bits)
/-! ### a, b = c, d -/
def mpar (i j : Nat) (f g : M D) : M Flow := mbind f fun x => mbind g fun y => mbind (mstore i (.d x)) fun _ => mstore j (.d y)
theorem ss_par {i j : Nat} {x y : Str} {a b : Expr} {f g : M D} {px py pt : Pos} {kt k2 pt2} (hc : X.calm = true) (hN : X.N.Nodup) (hi : X.N[i]? = some x) (hj : X.N[j]? = some y)
    (hx : X.env.scope.names.lookup x = some .local) (hy : X.env.scope.names.lookup y = some .local) (ha : SE X W f a) (hb : SE X W g b)
    (hw : swappedStores [.Tuple [.Name x px, .Name y py] kt pt] (.Tuple [a, b] k2 pt2) X.env = pure (some [x, y])) (hij : i ≠ j := by decide)
    (h1 : starEach (a :: [b]) X.env = (false, eval a X.env) :: starEach [b] X.env := by rfl) (h2 : starEach (b :: []) X.env = (false, eval b X.env) :: starEach [] X.env := by rfl)
    (hs : swapsWithSole [.Tuple [.Name x px, .Name y py] kt pt] (.Tuple [a, b] k2 pt2) pos.line X.env = pure false := by rfl) :
    SS X W (mpar i j f g) (.Assign [.Tuple [.Name x px, .Name y py] kt pt] (.Tuple [a, b] k2 pt2) pos) :=
  (ps_par hc hN hi hj hij hx hy (pa_cons ha (pa_cons hb pa_nil h2) h1) hw hs).imp fun D σ H ⟨F0, ρ, R, o⟩ => sqE R o fun x ρ1 v H1 R1 S1 r1 o1 => sqE R1 o1 fun y ρ2 u H2 R2 S2 r2 o2 => by
    refine ⟨v, u, rfl, ?_⟩
    have o2 : OutS X W F0 ρ2 σ H2 D (mbind (mstore i (.d x)) (fun _ => mstore j (.d y)) ρ2) := o2
    unfold mbind at o2
    cases e : mstore i (.d x) ρ2 with
    | bad => rw [e] at o2; exact o2.elim
    | exc z ρ' => unfold mstore at e; split at e <;> cases e
    | ok fl ρ3 =>
      rw [e] at o2
      have hi2 : i < ρ2.length ∧ ((∀ ds, ρ2[i]? ≠ some (some (.own true ds))) ∧ ∀ es, ρ2[i]? ≠ some (some (.tre true es))) ∧ ρ3 = ρ2.set i (some (.d x)) := by
        have := store_cases (ρ := ρ2) (u := .d x) (i := i) (P := fun r => r = .ok fl ρ3) (fun z => by cases z) e
        obtain ⟨q1, q2, q3⟩ := this
        cases q3
        exact ⟨q1, q2, rfl⟩
      obtain ⟨hi2, hn, rfl⟩ := hi2
      obtain ⟨R3, less⟩ := R2.setD (S2.rep r1) hi2
      have S3 : Stp ρ2 σ H2 (ρ2.set i (some (.d x))) (σ.set i (some v)) H2 := Stp.set hn.1 hn.2 fun a z => .inl (less a z)
      obtain ⟨hj2, hm, o4⟩ := store_cases (P := OutS X W F0 ρ2 σ H2 D) (fun z => z) o2
      obtain ⟨R4, less4⟩ := R3.setD (S3.rep r2) hj2
      exact o4 _ H2 R4 (S3.trans (Stp.set hm.1 hm.2 fun a z => .inl (less4 a z)))
end
end Z

/-! Z: comprehensions with two fors -/
namespace Z
open PySem L2
def cloop2 (t : D → M Unit) (p : M Bool) (f1 : M (List D)) (t1 : D → M Unit) (p1 : M Bool) (g : M D) (vs vs1 : List Nat) : List D → List D → M (List D)
  | [], acc => mpure acc
  | x :: r, acc => fun ρ => match t x ρ with
    | .ok _ ρ1 => match p ρ1 with
      | .ok true ρ2 => match f1 ρ2 with
        | .ok ds1 ρ3 => match cloop t1 p1 g vs1 ds1 acc (clr ρ3 vs1) with
          | .ok acc' ρ4 => cloop2 t p f1 t1 p1 g vs vs1 r acc' (clr ρ4 vs)
          | _ => .bad
        | _ => .bad
      | .ok false ρ2 => cloop2 t p f1 t1 p1 g vs vs1 r acc (clr ρ2 vs)
      | _ => .bad
    | _ => .bad
def mcomp2 (vs vs1 : List Nat) (items : M (List D)) (t : D → M Unit) (p : M Bool) (f1 : M (List D)) (t1 : D → M Unit) (p1 : M Bool) (g : M D) : M (List D) := mbind items fun ds ρ =>
  if vs.all (free1 ρ) = true then match cloop2 t p f1 t1 p1 g vs vs1 ds [] (clr ρ vs) with
    | .ok acc ρ' => .ok acc (rst ρ ρ' vs)
    | _ => .bad
  else .bad
/-- a turn of the block's loops: against the frame ahead of them; D the list that grows -/
structure Bs (K : PySem.W.Frag) (F0 : Addr → Prop) (D : Addr) (vsA : List Nat) (ρ1 : En) (σ1 : St) (H1 : Hp) (acc : List Z.D) (ρ : En) (σ : St) (H : Hp) : Prop where
  R : Rl K (plus F0 D) ρ σ H
  ac : ∃ vacc, H D = some (.lst vacc) ∧ Reps K (Fav (plus F0 D) ρ σ) H acc vacc
  kp : ∀ a o, H1 a = some o → ¬ Own ρ1 σ1 a → H a = some o
  ow : ∀ a, Own ρ σ a → Own ρ1 σ1 a ∨ H1 a = none
  tr : ∀ a, H a = none → H1 a = none
  io : IoOk vsA ρ1 ρ
  ln : ρ.length = ρ1.length
section
variable {K : PySem.W.Frag} {F0 : Addr → Prop} {D : Addr} {vsA vs : List Nat} {ρ1 ρ ρ' ρ3 : En} {σ1 σ σ' σ3 : St} {H1 H H' H4 : Hp} {acc : List Z.D}
theorem Bs.notD (B : Bs K F0 D vsA ρ1 σ1 H1 acc ρ σ H) : ¬ Own ρ σ D := fun ⟨j, u, e, s⟩ => by
  obtain ⟨_, _, _, n⟩ := B.R.own j u (SV.has_owned s) e
  exact n D s (.inr rfl)
theorem Bs.stp (B : Bs K F0 D vsA ρ1 σ1 H1 acc ρ σ H) (S : Stp ρ σ H ρ' σ' H') (R' : Rl K (plus F0 D) ρ' σ' H') : Bs K F0 D vsA ρ1 σ1 H1 acc ρ' σ' H' where
  R := R'
  ac := by
    obtain ⟨vacc, h1, h2⟩ := B.ac
    exact ⟨vacc, S.keep _ _ h1 B.notD, S.reps h2⟩
  kp := fun a o e n => S.keep a o (B.kp a o e n) fun z => (B.ow a z).elim n fun q => by rw [e] at q; cases q
  ow := fun a z => (S.own a z).elim (B.ow a) fun q => .inr (B.tr a q)
  tr := fun a z => B.tr a (S.trk a z)
  io := B.io.stp S
  ln := S.len.trans B.ln
theorem Bs.clr (B : Bs K F0 D vsA ρ1 σ1 H1 acc ρ σ H) (hs : ∀ i ∈ vs, i ∈ vsA) : Bs K F0 D vsA ρ1 σ1 H1 acc (Z.clr ρ vs) (wipe σ vs) H := by
  obtain ⟨R2, less⟩ := B.R.clr vs
  obtain ⟨vacc, h1, h2⟩ := B.ac
  refine ⟨R2, ⟨vacc, h1, h2.mono (fun a z => .inl (z.imp id (less a))) fun _ _ e _ => e⟩, B.kp, fun a z => B.ow a (less a z), B.tr, ⟨fun i ds hi e => ?_, fun i ds hi e => ?_⟩, (clr_length _ _).trans B.ln⟩
  · obtain ⟨ds', e'⟩ := B.io.1 i ds hi e
    exact ⟨ds', by rw [clr_get, if_neg (fun z => hi (hs i z.1))]; exact e'⟩
  · obtain ⟨ds', e', q⟩ := B.io.2 i ds hi e
    exact ⟨ds', by rw [clr_get, if_neg (fun z => hi (hs i z.1))]; exact e', q⟩
theorem Bs.app (B : Bs K F0 D vsA ρ1 σ1 H1 acc ρ σ H) (nD : H1 D = none) {y : Z.D} {v : V} (r : Rep K (Fav (plus F0 D) ρ σ) H y v) : ∃ vacc, H D = some (.lst vacc) ∧ vacc.length = acc.length ∧ Bs K F0 D vsA ρ1 σ1 H1 (acc ++ [y]) ρ σ (upd H D (.lst (vacc ++ [v]))) := by
  obtain ⟨vacc, h1, h2⟩ := B.ac
  have k8 : ∀ a o', H a = some o' → ¬ Fav (plus F0 D) ρ σ a → upd H D (.lst (vacc ++ [v])) a = some o' := fun a o' e n => by rw [upd_ne fun z => n (.inl (.inr z))]; exact e
  refine ⟨vacc, h1, h2.length.symm, B.R.acc, ⟨_, upd_same, (h2.append (.cons r .nil)).mono (fun _ z => .inl z) k8⟩, fun a o e n => ?_, B.ow, fun a z => ?_, B.io, B.ln⟩
  · rw [upd_ne fun z => by rw [z, nD] at e; cases e]
    exact B.kp a o e n
  · by_cases h : a = D
    · rw [h]; exact nD
    · rw [upd_ne h] at z; exact B.tr a z
/-- what an inner source needs of later states -/
structure Kp (F0 : Addr → Prop) (D : Addr) (ρ3 : En) (σ3 : St) (H4 : Hp) (ρ : En) (σ : St) (H : Hp) : Prop where
  kp : ∀ a o, H4 a = some o → ¬ Fav (plus F0 D) ρ3 σ3 a → H a = some o
  ow : ∀ a, Own ρ σ a → Own ρ3 σ3 a ∨ H4 a = none
  tr : ∀ a, H a = none → H4 a = none
theorem Kp.stp (k : Kp F0 D ρ3 σ3 H4 ρ σ H) (S : Stp ρ σ H ρ' σ' H') : Kp F0 D ρ3 σ3 H4 ρ' σ' H' :=
  ⟨fun a o e n => S.keep a o (k.kp a o e n) fun z => (k.ow a z).elim (fun q => n (.inr q)) fun q => (by rw [e] at q; cases q), fun a z => (S.own a z).elim (k.ow a) fun q => .inr (k.tr a q), fun a z => k.tr a (S.trk a z)⟩
theorem Kp.less (k : Kp F0 D ρ3 σ3 H4 ρ σ H) (h : ∀ a, Own ρ' σ' a → Own ρ σ a) : Kp F0 D ρ3 σ3 H4 ρ' σ' H := ⟨k.kp, fun a z => k.ow a (h a z), k.tr⟩
theorem Kp.app {o : HO} {o0 : HO} (k : Kp F0 D ρ3 σ3 H4 ρ σ H) (hD : H4 D = some o0) : Kp F0 D ρ3 σ3 H4 ρ σ (upd H D o) :=
  ⟨fun a u e n => by rw [upd_ne fun z => n (.inl (.inr z))]; exact k.kp a u e n, k.ow, fun a z => by
    by_cases h : a = D
    · rw [h, upd_same] at z; cases z
    · rw [upd_ne h] at z; exact k.tr a z⟩
end
section
variable {X : Cx} {W : WX}
/-- the inner loop -/
theorem loop_in {F0 : Addr → Prop} {Dl : Addr} {vsA vs : List Nat} {ρ1 ρ3 ρe : En} {σ1 σ3 : St} {H1 H4 : Hp} {t : D → M Unit} {p : M Bool} {g : M D} {J : It} {ds acc0 res : List D} {Nx : Hp → Prop} (hs : ∀ i ∈ vs, i ∈ vsA) (nD : H1 Dl = none)
    (it : Iters X.K (Fav (plus F0 Dl) ρ3 σ3) H4 J ds) (B : Bs X.K F0 Dl vsA ρ1 σ1 H1 acc0 ρ3 σ3 H4) (run : cloop t p g vs ds acc0 (clr ρ3 vs) = .ok res ρe) (fin : ∀ H, Bs X.K F0 Dl vsA ρ1 σ1 H1 res ρe (wipe σ3 vs) H → Nx H) :
    ∃ W1 : Nat → Nat → Hp → Prop, (∃ m, W1 0 m H4) ∧ ∀ j k H, W1 j k H → (J.stop j H ∧ Nx H) ∨ (J.go j H ∧ ∃ Nx1 : Hp → Prop, (∀ H', Nx1 H' → ∃ k', k' < k ∧ W1 (j + 1) k' H') ∧ ∀ x H', J.yld j H x H' →
      tG X vs t x (wipe σ3 vs) H' fun σ4 H5 => wipe σ4 vs = wipe σ3 vs ∧ tT X W0 p σ4 H5 fun b H6 => if b = true then tE X W0 g σ4 H6 fun y H7 => ∃ acc, H7 Dl = some (.lst acc) ∧ acc.length < sizeLine ∧ Nx1 (upd H7 Dl (.lst (acc ++ [y]))) else Nx1 H6) := by
  obtain ⟨v0, hD4, _⟩ := B.ac
  obtain ⟨_, less0⟩ := B.R.clr vs
  have K0 : Kp F0 Dl ρ3 σ3 H4 ρ3 σ3 H4 := ⟨fun _ _ e _ => e, fun _ z => .inl z, fun _ z => z⟩
  refine ⟨fun j m H => m = ds.length - j ∧ j ≤ ds.length ∧ ∃ ρk acc, Bs X.K F0 Dl vsA ρ1 σ1 H1 acc ρk (wipe σ3 vs) H ∧ Kp F0 Dl ρ3 σ3 H4 ρk (wipe σ3 vs) H ∧ cloop t p g vs (ds.drop j) acc ρk = .ok res ρe,
    ⟨_, rfl, Nat.zero_le _, clr ρ3 vs, acc0, B.clr hs, K0.less less0, run⟩, ?_⟩
  rintro j m H ⟨rfl, hj, ρk, acc, Bk, Kk, run⟩
  obtain ⟨st, gos⟩ := it H Kk.kp
  by_cases hlt : j < ds.length
  · have e : ds[j]? = some ds[j] := List.getElem?_eq_getElem hlt
    obtain ⟨go, ys⟩ := gos j _ e
    rw [List.drop_eq_getElem_cons hlt] at run
    refine .inr ⟨go, fun H' => ∃ ρk acc, Bs X.K F0 Dl vsA ρ1 σ1 H1 acc ρk (wipe σ3 vs) H' ∧ Kp F0 Dl ρ3 σ3 H4 ρk (wipe σ3 vs) H' ∧ cloop t p g vs (ds.drop (j + 1)) acc ρk = .ok res ρe, fun H' h => ⟨_, by omega, rfl, hlt, h⟩, fun x H3 hy => ?_⟩
    obtain ⟨k3, rep⟩ := ys x H3 hy
    have fav : ∀ a, Fav (plus F0 Dl) ρk (wipe σ3 vs) a → Fav (plus F0 Dl) ρ3 σ3 a ∨ H4 a = none := fun a z => by
      rcases z with z | z
      · exact .inl (.inl z)
      · exact (Kk.ow a z).imp .inr id
    have r := rep (Fav (plus F0 Dl) ρk (wipe σ3 vs)) fav (fun a z => Bk.R.fav_alc a z)
    have B3 := Bk.stp (Stp.same k3) (Bk.R.same k3)
    have K3 := Kk.stp (ρ' := ρk) (σ' := wipe σ3 vs) (Stp.same k3)
    refine ⟨plus F0 Dl, ρk, _, B3.R, r, ?_⟩
    unfold cloop at run
    cases e4 : t ds[j] ρk with
    | bad => rw [e4] at run; cases run
    | exc x ρ' => rw [e4] at run; cases run
    | ok u ρ4 =>
      rw [e4] at run
      simp only at run
      refine fun σ4 H5 R4 S4 w4 k4 => ⟨by rw [w4]; exact wipe_wipe, ?_⟩
      have ww : wipe σ4 vs = wipe σ3 vs := by rw [w4]; exact wipe_wipe
      have B4 := B3.stp S4 R4
      have K4 := K3.stp S4
      cases e5 : p ρ4 with
      | bad => rw [e5] at run; cases run
      | exc x ρ' => rw [e5] at run; cases run
      | ok b ρ5 =>
        rw [e5] at run
        refine ⟨plus F0 Dl, ρ4, R4, ?_⟩
        rw [e5]
        intro H6 R5 S5
        have B5 := B4.stp S5 R5
        have K5 := K4.stp S5
        cases b with
        | false =>
          rw [if_neg (by decide)]
          obtain ⟨_, o5⟩ := B5.R.clr vs
          have B6 := B5.clr hs
          have K6 := K5.less o5
          rw [ww] at B6 K6
          exact ⟨_, acc, B6, K6, run⟩
        | true =>
          rw [if_pos rfl]
          simp only at run
          cases e6 : g ρ5 with
          | bad => rw [e6] at run; cases run
          | exc x ρ' => rw [e6] at run; cases run
          | ok y ρ6 =>
            rw [e6] at run
            simp only at run
            refine ⟨plus F0 Dl, ρ5, R5, ?_⟩
            rw [e6]
            intro v H7 R6 S6 ry
            have B6 := B5.stp S6 R6
            have K6 := K5.stp S6
            obtain ⟨vacc, hd, hl, B7⟩ := B6.app nD ry
            by_cases hz : acc.length < sizeLine
            · rw [if_pos hz] at run
              refine ⟨vacc, hd, by rw [hl]; exact hz, ?_⟩
              obtain ⟨_, o7⟩ := B7.R.clr vs
              have B8 := B7.clr hs
              have K8 := (K6.app (o := .lst (vacc ++ [v])) hD4).less o7
              rw [ww] at B8 K8
              exact ⟨_, acc ++ [y], B8, K8, run⟩
            · rw [if_neg hz] at run; cases run
  · have e : j = ds.length := by omega
    subst e
    rw [List.drop_length] at run
    cases run
    exact .inl ⟨st, fin H Bk⟩
theorem wipe_sub {σ : St} {vs vs1 : List Nat} (h : ∀ i ∈ vs1, i ∈ vs) : wipe (wipe σ vs1) vs = wipe σ vs := by
  apply List.ext_getElem?
  intro j
  by_cases hj : j ∈ vs ∧ j < σ.length
  · rw [wipe_get, wipe_length, if_pos hj, wipe_get, if_pos hj]
  · have hm : ¬ (j ∈ vs1 ∧ j < σ.length) := fun z => hj ⟨h j z.1, z.2⟩
    rw [wipe_get, wipe_length, if_neg hj, wipe_get, if_neg hm, wipe_get, if_neg hj]
theorem comp2_of {f f1 : M (List D)} {t t1 : D → M Unit} {p p1 : M Bool} {g : M D} {vs vs1 : List Nat} (hs : ∀ i ∈ vs1, i ∈ vs) :
    ∀ σ H Q, tF X W (mcomp2 vs vs1 f t p f1 t1 p1 g) σ H Q → tLc2 (tI X W f) (tG X vs t) (tT X W0 p) (tI X W0 f1) (tG X vs1 t1) (tT X W0 p1) (tE X W0 g) vs vs1 σ H Q := fun σ H Q ⟨F0, ρ, R, o⟩ => by
  refine ⟨F0, ρ, R, (Out.bind o).imp fun ds ρ1 o1 J H1 R1 S1 it Dl hD => ?_⟩
  split at o1
  · rename_i hf
    split at o1
    · rename_i res ρe er
      have RD : Rl X.K (plus F0 Dl) ρ1 σ (upd H1 Dl (.lst [])) := R1.more (Same.new hD _) hD ⟨_, upd_same⟩
      obtain ⟨Rb, ownb⟩ := RD.clr vs
      have Bb : Bs X.K F0 Dl vs ρ1 σ H1 [] (clr ρ1 vs) (wipe σ vs) (upd H1 Dl (.lst [])) :=
        ⟨Rb, ⟨[], upd_same, .nil⟩, fun a o e n => Same.new hD _ a o e, fun a z => .inl (ownb a z), fun a z => Same.free (Same.new hD _) z, IoOk.refl _ _, clr_length _ _⟩
      refine ⟨fun i m H2 => m = ds.length - i ∧ i ≤ ds.length ∧ ∃ ρk acc, Bs X.K F0 Dl vs ρ1 σ H1 acc ρk (wipe σ vs) H2 ∧ cloop2 t p f1 t1 p1 g vs vs1 (ds.drop i) acc ρk = .ok res ρe, ⟨_, rfl, Nat.zero_le _, _, [], Bb, er⟩, ?_⟩
      rintro i m H2 ⟨rfl, hi, ρk, acc, Bk, run⟩
      have keep : ∀ a o, H1 a = some o → ¬ Fav F0 ρ1 σ a → H2 a = some o := fun a o e n => Bk.kp a o e fun z => n (.inr z)
      obtain ⟨st, gos⟩ := it H2 keep
      by_cases hlt : i < ds.length
      · have e : ds[i]? = some ds[i] := List.getElem?_eq_getElem hlt
        obtain ⟨go, ys⟩ := gos i _ e
        rw [List.drop_eq_getElem_cons hlt] at run
        refine .inr ⟨go, fun H' => ∃ ρk acc, Bs X.K F0 Dl vs ρ1 σ H1 acc ρk (wipe σ vs) H' ∧ cloop2 t p f1 t1 p1 g vs vs1 (ds.drop (i + 1)) acc ρk = .ok res ρe, fun H' h => ⟨_, by omega, rfl, hlt, h⟩, fun x H3 hy => ?_⟩
        obtain ⟨k3, rep⟩ := ys x H3 hy
        have fav : ∀ a, Fav (plus F0 Dl) ρk (wipe σ vs) a → Fav F0 ρ1 σ a ∨ H1 a = none := fun a z => by
          rcases z with (z | z) | z
          · exact .inl (.inl z)
          · rw [z]; exact .inr hD
          · exact (Bk.ow a z).imp .inr id
        have r := rep (Fav (plus F0 Dl) ρk (wipe σ vs)) fav (fun a z => Bk.R.fav_alc a z)
        have B3 := Bk.stp (Stp.same k3) (Bk.R.same k3)
        refine ⟨plus F0 Dl, ρk, _, B3.R, r, ?_⟩
        unfold cloop2 at run
        cases e4 : t ds[i] ρk with
        | bad => rw [e4] at run; cases run
        | exc x ρ' => rw [e4] at run; cases run
        | ok u ρ4 =>
          rw [e4] at run
          simp only at run
          refine fun σ4 H4 R4 S4 w4 k4 => ⟨by rw [w4]; exact wipe_wipe, ?_⟩
          have ww : wipe σ4 vs = wipe σ vs := by rw [w4]; exact wipe_wipe
          have B4 := B3.stp S4 R4
          cases e5 : p ρ4 with
          | bad => rw [e5] at run; cases run
          | exc x ρ' => rw [e5] at run; cases run
          | ok b ρ5 =>
            rw [e5] at run
            refine ⟨plus F0 Dl, ρ4, R4, ?_⟩
            rw [e5]
            intro H5 R5 S5
            have B5 := B4.stp S5 R5
            cases b with
            | false =>
              rw [if_neg (by decide)]
              have B6 := B5.clr (vs := vs) fun _ z => z
              rw [ww] at B6
              exact ⟨_, acc, B6, run⟩
            | true =>
              rw [if_pos rfl]
              simp only at run
              cases e6 : f1 ρ5 with
              | bad => rw [e6] at run; cases run
              | exc x ρ' => rw [e6] at run; cases run
              | ok ds1 ρ6 =>
                rw [e6] at run
                simp only at run
                refine ⟨plus F0 Dl, ρ5, R5, ?_⟩
                rw [e6]
                intro J1 H6 R6 S6 it1
                have B6 := B5.stp S6 R6
                cases e7 : cloop t1 p1 g vs1 ds1 acc (clr ρ6 vs1) with
                | bad => rw [e7] at run; cases run
                | exc x ρ' => rw [e7] at run; cases run
                | ok acc' ρ7 =>
                  rw [e7] at run
                  simp only at run
                  refine loop_in hs hD it1 B6 e7 fun H7 B7 => ?_
                  have B8 := B7.clr (vs := vs) fun _ z => z
                  rw [wipe_sub hs, ww] at B8
                  exact ⟨_, acc', B8, run⟩
      · have e : i = ds.length := by omega
        subst e
        rw [List.drop_length] at run
        cases run
        obtain ⟨R8, S8⟩ := block_end R1 hD hf Bk.R Bk.kp Bk.ow Bk.tr Bk.io Bk.ln
        obtain ⟨vacc, hDk, rk⟩ := Bk.ac
        have f8 : ∀ a, Fav (plus F0 Dl) (rst ρ1 ρe vs) σ a → Fav (plus F0 Dl) ρe (wipe σ vs) a ∨ H2 a = none := fun a z => by
          exact .inl (z.imp id (rst_own hf))
        exact .inl ⟨st, o1 Dl vacc H2 R8 (S1.trans S8) (S1.trk Dl hD) hDk (rk.mono f8 fun _ _ e _ => e)⟩
    · exact o1.elim
  · exact o1.elim
section
variable {elt tg iter tg1 iter1 : Expr} {ifs ifs1 : List Expr} {scope : Scope} {own : List (Str × Nat)} {vs1 : List Nat} {pos : Pos} {f f1 : M (List D)} {t t1 : D → M Unit} {p p1 : M Bool} {g : M D}
theorem sf_comp2 (hc : X.calm = true) (hN : X.N.Nodup) (hi : SI X W f tg iter) (ok : BlkOk X.N X.env.scope scope own) (hv : ∀ i ∈ vs1, i ∈ own.map (·.2))
    (hg : ∀ (s : Shared) (H : Hp) (C : Addr) (cl : List (Str × Addr)) (fp : List Addr), SG (X.blk s H scope (compEnvC scope cl C X.env) fp) (own.map (·.2)) t tg) (ht : ∀ (s : Shared) (H : Hp) (C : Addr) (cl : List (Str × Addr)) (fp : List Addr), PTs (X.blk s H scope (compEnvC scope cl C X.env) fp) ifs (tT (X.blk s H scope (compEnvC scope cl C X.env) fp) W0 p))
    (hi1 : ∀ (s : Shared) (H : Hp) (C : Addr) (cl : List (Str × Addr)) (fp : List Addr), SI (X.blk s H scope (compEnvC scope cl C X.env) fp) W0 f1 tg1 iter1)
    (hg1 : ∀ (s : Shared) (H : Hp) (C : Addr) (cl : List (Str × Addr)) (fp : List Addr), SG (X.blk s H scope (compEnvC scope cl C X.env) fp) vs1 t1 tg1) (ht1 : ∀ (s : Shared) (H : Hp) (C : Addr) (cl : List (Str × Addr)) (fp : List Addr), PTs (X.blk s H scope (compEnvC scope cl C X.env) fp) ifs1 (tT (X.blk s H scope (compEnvC scope cl C X.env) fp) W0 p1))
    (he : ∀ (s : Shared) (H : Hp) (C : Addr) (cl : List (Str × Addr)) (fp : List Addr), SE (X.blk s H scope (compEnvC scope cl C X.env) fp) W0 g elt) (hs : ∀ x, foldedSetIterable iter X.env x = pure x := by intro _; rfl) (hs1 : ∀ env x, foldedSetIterable iter1 env x = pure x := by intro _ _; rfl) :
    SF X W (mcomp2 (own.map (·.2)) vs1 f t p f1 t1 p1 g) (.ListComp elt [⟨tg, iter, ifs, 0⟩, ⟨tg1, iter1, ifs1, 0⟩] scope pos) :=
  (pe_lc2 (g := tG X (jsOf own) t) (tt := tT X W0 p) (wi1 := tI X W0 f1) (g1 := tG X vs1 t1) (tt1 := tT X W0 p1) (te := tE X W0 g) hc hN hi ok hv hg ht hi1 hg1 ht1 he hs hs1).imp (comp2_of hv)
theorem ss_setLc2 {i : Nat} {y : Str} {py spos : Pos} (hc : X.calm = true) (hN : X.N.Nodup) (hy : X.N[i]? = some y) (hyl : X.env.scope.names.lookup y = some .local)
    (hsw : swapsWith (.ListComp elt [⟨tg, iter, ifs, 0⟩, ⟨tg1, iter1, ifs1, 0⟩] scope pos) (some (.Name y py)) spos.line X.env = pure true) (hi : SI X W f tg iter) (ok : BlkOk X.N X.env.scope scope own) (hv : ∀ i ∈ vs1, i ∈ own.map (·.2))
    (hg : ∀ (s : Shared) (H : Hp) (C : Addr) (cl : List (Str × Addr)) (fp : List Addr), SG (X.blk s H scope (compEnvC scope cl C X.env) fp) (own.map (·.2)) t tg) (ht : ∀ (s : Shared) (H : Hp) (C : Addr) (cl : List (Str × Addr)) (fp : List Addr), PTs (X.blk s H scope (compEnvC scope cl C X.env) fp) ifs (tT (X.blk s H scope (compEnvC scope cl C X.env) fp) W0 p))
    (hi1 : ∀ (s : Shared) (H : Hp) (C : Addr) (cl : List (Str × Addr)) (fp : List Addr), SI (X.blk s H scope (compEnvC scope cl C X.env) fp) W0 f1 tg1 iter1)
    (hg1 : ∀ (s : Shared) (H : Hp) (C : Addr) (cl : List (Str × Addr)) (fp : List Addr), SG (X.blk s H scope (compEnvC scope cl C X.env) fp) vs1 t1 tg1) (ht1 : ∀ (s : Shared) (H : Hp) (C : Addr) (cl : List (Str × Addr)) (fp : List Addr), PTs (X.blk s H scope (compEnvC scope cl C X.env) fp) ifs1 (tT (X.blk s H scope (compEnvC scope cl C X.env) fp) W0 p1))
    (he : ∀ (s : Shared) (H : Hp) (C : Addr) (cl : List (Str × Addr)) (fp : List Addr), SE (X.blk s H scope (compEnvC scope cl C X.env) fp) W0 g elt) (hs : ∀ x, foldedSetIterable iter X.env x = pure x := by intro _; rfl) (hs1 : ∀ env x, foldedSetIterable iter1 env x = pure x := by intro _ _; rfl) :
    SS X W (msetF i (mcomp2 (own.map (·.2)) vs1 f t p f1 t1 p1 g)) (.Assign [.Name y py] (.ListComp elt [⟨tg, iter, ifs, 0⟩, ⟨tg1, iter1, ifs1, 0⟩] scope pos) spos) :=
  (ps_setLc2 (g := tG X (jsOf own) t) (tt := tT X W0 p) (wi1 := tI X W0 f1) (g1 := tG X vs1 t1) (tt1 := tT X W0 p1) (te := tE X W0 g) hc hN hy hyl hsw hi ok hv hg ht hi1 hg1 ht1 he hs hs1).imp fun D σ H ⟨F0, ρ, R, o⟩ => comp2_of hv σ H _ (setF_end R o)
theorem ss_setLc2D {i : Nat} {y : Str} {py spos : Pos} (hc : X.calm = true) (hN : X.N.Nodup) (hy : X.N[i]? = some y) (hyl : X.env.scope.names.lookup y = some .local)
    (hsw : swapsWith (.ListComp elt [⟨tg, iter, ifs, 0⟩, ⟨tg1, iter1, ifs1, 0⟩] scope pos) (some (.Name y py)) spos.line X.env = pure true) (hi : SI X W f tg iter) (ok : BlkOk X.N X.env.scope scope own) (hv : ∀ i ∈ vs1, i ∈ own.map (·.2))
    (hg : ∀ (s : Shared) (H : Hp) (C : Addr) (cl : List (Str × Addr)) (fp : List Addr), SG (X.blk s H scope (compEnvC scope cl C X.env) fp) (own.map (·.2)) t tg) (ht : ∀ (s : Shared) (H : Hp) (C : Addr) (cl : List (Str × Addr)) (fp : List Addr), PTs (X.blk s H scope (compEnvC scope cl C X.env) fp) ifs (tT (X.blk s H scope (compEnvC scope cl C X.env) fp) W0 p))
    (hi1 : ∀ (s : Shared) (H : Hp) (C : Addr) (cl : List (Str × Addr)) (fp : List Addr), SI (X.blk s H scope (compEnvC scope cl C X.env) fp) W0 f1 tg1 iter1)
    (hg1 : ∀ (s : Shared) (H : Hp) (C : Addr) (cl : List (Str × Addr)) (fp : List Addr), SG (X.blk s H scope (compEnvC scope cl C X.env) fp) vs1 t1 tg1) (ht1 : ∀ (s : Shared) (H : Hp) (C : Addr) (cl : List (Str × Addr)) (fp : List Addr), PTs (X.blk s H scope (compEnvC scope cl C X.env) fp) ifs1 (tT (X.blk s H scope (compEnvC scope cl C X.env) fp) W0 p1))
    (he : ∀ (s : Shared) (H : Hp) (C : Addr) (cl : List (Str × Addr)) (fp : List Addr), SE (X.blk s H scope (compEnvC scope cl C X.env) fp) W0 g elt) (hs : ∀ x, foldedSetIterable iter X.env x = pure x := by intro _; rfl) (hs1 : ∀ env x, foldedSetIterable iter1 env x = pure x := by intro _ _; rfl) :
    SS X W (mset i (mbind (mcomp2 (own.map (·.2)) vs1 f t p f1 t1 p1 g) fun ds => mpure (.lst ds))) (.Assign [.Name y py] (.ListComp elt [⟨tg, iter, ifs, 0⟩, ⟨tg1, iter1, ifs1, 0⟩] scope pos) spos) :=
  (ps_setLc2 (g := tG X (jsOf own) t) (tt := tT X W0 p) (wi1 := tI X W0 f1) (g1 := tG X vs1 t1) (tt1 := tT X W0 p1) (te := tE X W0 g) hc hN hy hyl hsw hi ok hv hg ht hi1 hg1 ht1 he hs hs1).imp fun D σ H ⟨F0, ρ, R, o⟩ => comp2_of hv σ H _ (tE_tF (set_end R o))
end
end
end Z

/-! Z: enumerate of a list or a tuple, zip; x += n -/
namespace Z
open PySem PySem.Spec PyProof.Rows L2
set_option maxHeartbeats 4000000 in
theorem meets_enum1 {v : Value} {o : Obj} {H : Heap → Prop} (B : Begins v o H) :
    Meets (Builtin.«enumerate.__new__» ⟨[.type "enumerate", v], []⟩) (fun _ R s => H s.heap ∧
      R (.ok (.ret (.ref (s.heap.push o).objs.size))) { s with heap := (s.heap.push o).push { cls := .type "enumerate", data := .fields #[.none, .bool false, .ref s.heap.objs.size, rawInt 0, .none, .none] } }) :=
  .of_wp fun prog w A R s h => by
    obtain ⟨hp, g, d, tk, os⟩ := s; obtain ⟨h1, h⟩ := h
    have hsub := sub_enumerate
    have q1 : ∀ {A' : Around} {E : Value → Shared → Prop} {Q : Value → Shared → Prop}, Q (.ref hp.objs.size) ⟨hp.push o, g, d, tk, os⟩ → wpAny (model prog w) A' (pyIter v) Q E ⟨hp, g, d, tk, os⟩ :=
      fun q => B.iter prog w _ _ ⟨hp, g, d, tk, os⟩ _ h1 q
    wp_walk using q1
    refine wpAny_stack_any fun st => wpAny_pure ?_
    split
    · rename_i c _ _ _ _ _
      cases (c == Value.type "enumerate") <;> (wp_walk using q1; exact ⟨_, rfl, h⟩)
    · wp_walk using q1
      exact ⟨_, rfl, h⟩
theorem call_enum1 {prog : Program} {w : World} {A : Around} {E : Value → Shared → Prop} {s : Shared} {v : Value} {o : Obj} {H : Heap → Prop} {Q : Value → Shared → Prop} (B : Begins v o H) (h1 : H s.heap)
    (k : ∀ h', IsEnum h' (s.heap.objs.size + 1) s.heap.objs.size 0 .none → h'.get? s.heap.objs.size = some o → h'.objs.size = s.heap.objs.size + 2 →
      (∀ b o, s.heap.get? b = some o → h'.get? b = some o) → Q (.ref (s.heap.objs.size + 1)) { s with heap := h' }) :
    wpAny (model prog w) A (call (.type "enumerate") [v]) Q E s := by
  refine callType_new F.called_enumerate (by decide) (F.typeCall_enumerate_1 _) (F.newCall_enumerate_1 _) (fun obj => F.args_object_init_2 obj _) F.entry_enumerate_new (meets_enum1 B) ⟨h1, ?_⟩
  have hz : (s.heap.push o).objs.size = s.heap.objs.size + 1 := Heap.size_push ..
  show _ ∧ _
  rw [hz]
  have he : IsEnum ((s.heap.push o).push { cls := .type "enumerate", data := .fields #[.none, .bool false, .ref s.heap.objs.size, rawInt 0, .none, .none] }) (s.heap.objs.size + 1) s.heap.objs.size 0 .none := by
    have := Heap.get?_push_size (s.heap.push o) (o := { cls := .type "enumerate", data := .fields #[.none, .bool false, .ref s.heap.objs.size, rawInt 0, .none, .none] }) rfl
    rw [hz] at this; exact this
  exact ⟨⟨_, he, rfl⟩, k _ he (Heap.get?_push_of_some _ (Heap.get?_push_size _ B.free)) (by rw [Heap.size_push, hz]) fun b o x => Heap.get?_push_of_some _ (Heap.get?_push_of_some _ x)⟩
/-- the tuple at a, each item in a new pair -/
def ItT (K : PySem.W.Frag) (a : Addr) : It :=
  ⟨fun i H => ∃ (xs : List V) (x : V), SqT K H a xs ∧ xs[i]? = some x, fun i H v H' => ∃ T x, v = .ref T ∧ H T = none ∧ H' = upd H T (.tup [.int (i : Nat), x]) ∧ ∀ xs, SqT K H a xs → xs[i]? = some x, fun i H => ∃ xs : List V, SqT K H a xs ∧ xs.length = i⟩
theorem turn_enumT {P : Program} {w : World} {K : PySem.W.Frag} {elts : List Expr} {kk : Nat} {tpos : Pos} (a e it : Addr) :
    Turn P w K (.Tuple elts kk tpos) (ItT K a) [e, it] e (fun i h => (∃ old, IsEnum h e it ((i : Nat) : Int) old) ∧ h.IsTupleIter it a i ∧ e ≠ it) where
  mem := by simp
  obj := fun i h st b hb => by
    obtain ⟨⟨old, he⟩, ⟨o, ho, hc, hd⟩, _⟩ := st
    rcases (by simpa using hb : b = e ∨ b = it) with z | z
    · rw [z]; exact ⟨_, he, fun v q => nomatch q⟩
    · rw [z]; exact ⟨o, ho, fun v q => by rw [hd] at q; cases q⟩
  keep := fun i h h' st k => let ⟨⟨old, he⟩, hi, hne⟩ := st; ⟨⟨old, k e (by simp) _ he⟩, hi.at fun o q => k it (by simp) o q, hne⟩
  item := by
    intro X hP hw hK hc i pins s σ H E I hf st hg
    subst hP hw hK
    obtain ⟨⟨old, he⟩, hit, hne⟩ := st
    obtain ⟨xs, x, hq, hx⟩ := hg
    obtain ⟨its, rv, p, hz⟩ := I.tuple hq
    obtain ⟨u, hu, ru⟩ := rv.get hx
    have hel : e < s.heap.objs.size := Heap.lt_size he
    have hil : it < s.heap.objs.size := by obtain ⟨_, q, _⟩ := hit; exact Heap.lt_size q
    have nai : a ≠ it := fun z => by
      obtain ⟨o, q1, q2, _⟩ := hit
      obtain ⟨o', p1, p2, _⟩ := p
      rw [z, q1] at p1; cases p1
      exact absurd (Value.type.inj (q2.symm.trans p2)) (by decide)
    have nae : e ∉ [it, a] := fun z => by
      rcases (by simpa using z : e = it ∨ e = a) with z | z
      · exact hne z
      · obtain ⟨o', p1, p2, _⟩ := p
        rw [← z, he] at p1; cases p1
        exact absurd (Value.type.inj p2) (by decide)
    have hlt : i < its.toArray.size := by
      have := (List.getElem?_eq_some_iff.mp hu).1
      simpa using this
    refine wpAny_pyNext_enum_itemD (Draws.tuple (A := X.A.in1) (show X.A.in1.handled = none from I.ok.hd hc) it a nai its.toArray) he ⟨hit, p⟩ hlt hne nae fun x' h' tk hx' ho hst hT hsz hk => ?_
    have hxu : x' = u := by
      have : its[i]? = some x' := by simpa using hx'
      rw [hu] at this; exact (Option.some.inj this).symm
    subst hxu
    refine ⟨_, rfl, wpAny_letOwnedTupleGo_enum (s := { s with heap := h', toks := tk + 1 }) ho fun h'' he' sb => ?_⟩
    have hT2 : h''.get? s.heap.objs.size = some { cls := .type "tuple", data := .seq #[.int i tk, x'] } := (sb.2 _ (Nat.ne_of_gt hel)).trans hT
    have new : ObjOk X.prog X.w (upd H s.heap.objs.size (.tup [.int (i : Nat), x])) h'' s.heap.objs.size (.tup [.int (i : Nat), x]) :=
      ⟨by show 2 ≤ sizeLine; decide, [.int i tk, x'], .cons ⟨_, rfl⟩ (.cons ru .nil), ⟨_, hT2, rfl, _, rfl⟩⟩
    have I1 : Inv X pins σ (upd H s.heap.objs.size (.tup [.int (i : Nat), x])) { s with heap := h'', toks := tk + 1 } :=
      I.turnedNew (ch := [e, it]) (fun b ob hb q => (sb.2 b (fun z => hb (by simp [z]))).trans (hk b ob (fun z => hb (by simp [z])) (fun z => hb (by simp [z])) q)) hf (Nat.le_refl _) new
    refine ⟨.ref s.heap.objs.size, _, I1, rfl, ⟨_, x, rfl, I.hok.fresh (Nat.le_refl _), rfl, fun ys hy => by rw [I.tuple_inj hy hq]; exact hx⟩, ⟨⟨x', ?_⟩, hst.1.at fun o q => (sb.2 it (Ne.symm hne)).trans q, hne⟩, fun b hb => ?_⟩
    · have e1 : ((i + 1 : Nat) : Int) = (i : Int) + 1 := by omega
      rw [e1]; exact he'
    · have hb' : b < s.heap.objs.size := by
        rcases (by simpa using hb : b = e ∨ b = it) with z | z
        · rw [z]; exact hel
        · rw [z]; exact hil
      rw [upd_ne (Nat.ne_of_lt hb')]
      exact (hf b hb).1
  done := by
    intro X hP hw hK hc i pins s σ H E I hf st hg
    subst hP hw hK
    obtain ⟨⟨old, he⟩, hit, hne⟩ := st
    obtain ⟨xs, hq, hx⟩ := hg
    obtain ⟨its, rv, p, hz⟩ := I.tuple hq
    obtain ⟨f0, f1, f2, f3, f4, f5⟩ := hf it (by simp)
    have nai : a ≠ it := fun z => by
      obtain ⟨o, q1, q2, _⟩ := hit
      obtain ⟨o', p1, p2, _⟩ := p
      rw [z, q1] at p1; cases p1
      exact absurd (Value.type.inj (q2.symm.trans p2)) (by decide)
    have en : i = its.toArray.size := by rw [List.size_toArray, ← rv.length, hx]
    refine wpAny_pyNext_enum_endD (Draws.tuple (A := X.A.in1) (show X.A.in1.handled = none from I.ok.hd hc) it a nai its.toArray) he (by rw [← en]; exact ⟨hit, p⟩) fun h' eb => ⟨rfl, I.turned (t' := s.toks) (fun b o hb q => eb b o hb q) f0 f1 f3 f4 f5⟩
  self := fun A i s Q E st h => let ⟨⟨_, he⟩, _⟩ := st; wpAny_pyIter_enum he h
/-- enumerate(a list or a tuple) -/
def iEnumA (K : PySem.W.Frag) (ta : TA) : TI := fun σ H R => ta σ H fun vs H1 => ∃ a, vs = [.ref a] ∧ (((∃ xs, SqL K H1 a xs) ∧ R (Ite K a) H1) ∨ ((∃ xs, SqT K H1 a xs) ∧ R (ItT K a) H1))
theorem pi_enumA {X : Cx} {e : Expr} {ta : TA} {p pos tpos : Pos} {elts : List Expr} {kk : Nat} (hg : Gl X "enumerate") (hm : X.mg "enumerate" = none) (ha : PA X [e] ta) (hs : starEach [e] X.env = [(false, eval e X.env)] := by rfl) :
    PI X (.Tuple elts kk tpos) (.Call (.Name "enumerate" p) [e] [] pos) (iEnumA X.K ta) := by
  refine ⟨fun pins s σ H R I h => ?_⟩
  refine Call_ (ld_blt I hg hm boot_enumerate (PyProof.Rows.callWith_type1 (thn (ha.run pos pins s σ H _ I h) fun us s1 ⟨vs, H1, I1, r1, q1⟩ => ?_) hs rfl))
  obtain ⟨a, ex, q⟩ := q1
  subst ex
  cases r1 with
  | cons r rr =>
    cases rr
    cases r
    have fresh : ∀ b ∈ [s1.heap.objs.size + 1, s1.heap.objs.size], FpOk X pins H1 b := fun b hb => by
      have hle : s1.heap.objs.size ≤ b := by
        rcases (by simpa using hb : b = s1.heap.objs.size + 1 ∨ b = s1.heap.objs.size) with z | z
        · rw [z]; exact Nat.le_add_right _ _
        · rw [z]; exact Nat.le_refl _
      exact I1.fpOk hle (I1.hok.fresh hle)
    rcases q with ⟨⟨xs, hq⟩, q⟩ | ⟨⟨xs, hq⟩, q⟩
    · obtain ⟨its, rv, p', hz⟩ := I1.list hq
      refine call_enumerate_list p'.isList fun h' he hit hsz hk => wpAny_pyIter_enum he ?_
      have I2 : Inv X pins σ H1 { s1 with heap := h' } := I1.kept (t' := s1.toks) hk
      exact ⟨s1.heap.objs.size + 1, [s1.heap.objs.size + 1, s1.heap.objs.size], _, _, H1, rfl, I2, turn_enum a (s1.heap.objs.size + 1) s1.heap.objs.size, ⟨⟨.none, he⟩, hit, Nat.succ_ne_self _⟩, fresh, q⟩
    · obtain ⟨its, rv, p', hz⟩ := I1.tuple hq
      refine call_enum1 (begins_tuple a its.toArray) p' fun h' he hit hsz hk => wpAny_pyIter_enum he ?_
      have I2 : Inv X pins σ H1 { s1 with heap := h' } := I1.kept (t' := s1.toks) hk
      exact ⟨s1.heap.objs.size + 1, [s1.heap.objs.size + 1, s1.heap.objs.size], _, _, H1, rfl, I2, turn_enumT a (s1.heap.objs.size + 1) s1.heap.objs.size, ⟨⟨.none, he⟩, ⟨_, hit, rfl, rfl⟩, Nat.succ_ne_self _⟩, fresh, q⟩
/-! ### as runs -/
def enumL (ds : List D) : List D := ds.zipIdx.map fun p => .tup [.int (p.2 : Nat), p.1]
theorem enumL_length (ds : List D) : (enumL ds).length = ds.length := by simp [enumL]
theorem enumL_get {ds : List D} {i : Nat} {d : D} (h : (enumL ds)[i]? = some d) : ∃ x, ds[i]? = some x ∧ d = .tup [.int (i : Nat), x] := by
  unfold enumL at h
  rw [List.getElem?_map, List.getElem?_zipIdx] at h
  cases e : ds[i]? with
  | none => rw [e] at h; cases h
  | some x => rw [e] at h; cases h; exact ⟨x, rfl, by simp⟩
section
variable {K : PySem.W.Frag} {F : Addr → Prop} {H : Hp} {ds es : List D} {v u : V}
theorem rep_pair {F' : Addr → Prop} {H2 : Hp} {T : Addr} {x y : D} {vx vy : V} (al : ∀ a, F' a → ∃ o, H2 a = some o) (hT : H2 T = none) (rx : Rep K F' H2 x vx) (ry : Rep K F' H2 y vy) : Rep K F' (upd H2 T (.tup [vx, vy])) (.tup [x, y]) (.ref T) :=
  rep_newT al hT (.cons rx (.cons ry .nil))
/-- what an element of a sequence is, later -/
theorem seq_later {vs : List V} (r : Reps K F H ds vs) {H2 : Hp} (k : ∀ a o, H a = some o → ¬ F a → H2 a = some o) {i : Nat} {d : D} (e : ds[i]? = some d) : ∃ x, vs[i]? = some x ∧ ∀ F' : Addr → Prop, (∀ a, F' a → F a ∨ H a = none) → Rep K F' H2 d x := by
  obtain ⟨x, ex, rx⟩ := r.get e
  exact ⟨x, ex, fun F' hF => rx.mono hF k⟩
theorem sqT_later {a : Addr} {vs : List V} (h : SqT K H a vs) (n : ¬ F a ∨ ∀ H', SqT K H' a vs) {H2 : Hp} (k : ∀ a o, H a = some o → ¬ F a → H2 a = some o) : SqT K H2 a vs := by
  rcases n with n | n
  · exact ZqT.go h fun o e => k a o e n
  · exact n H2
theorem sqL_later {a : Addr} {vs : List V} (h : SqL K H a vs) (n : ¬ F a ∨ ∀ H', SqL K H' a vs) {H2 : Hp} (k : ∀ a o, H a = some o → ¬ F a → H2 a = some o) : SqL K H2 a vs := by
  rcases n with n | n
  · exact ZqL.go h fun o e => k a o e n
  · exact n H2
theorem iters_enT (r : Rep K F H (.tup ds) v) : ∃ a, v = .ref a ∧ (∃ xs, SqT K H a xs) ∧ Iters K F H (ItT K a) (enumL ds) := by
  cases r with
  | @tup a vs _ h n r =>
    refine ⟨a, rfl, ⟨vs, h⟩, fun H2 k => ?_⟩
    have h2 := sqT_later h n k
    refine ⟨⟨vs, h2, by rw [enumL_length, r.length]⟩, fun i d e => ?_⟩
    obtain ⟨x, ex, rfl⟩ := enumL_get e
    obtain ⟨y, ey, ry⟩ := seq_later r k ex
    refine ⟨⟨vs, y, h2, ey⟩, fun z H3 hz => ?_⟩
    obtain ⟨T, y', rfl, hT, rfl, hy⟩ := hz
    have e4 := hy vs h2
    rw [ey] at e4; cases e4
    exact ⟨Same.new hT _, fun F' hF al => rep_pair al hT (.int _) (ry F' hF)⟩
theorem iters_enK (r : Rep K F H (.kls ds) v) : ∃ a, v = .ref a ∧ (∃ xs, SqL K H a xs) ∧ Iters K F H (Ite K a) (enumL ds) := by
  cases r with
  | @kls a vs _ h n r =>
    refine ⟨a, rfl, ⟨vs, h⟩, fun H2 k => ?_⟩
    have h2 := sqL_later h n k
    refine ⟨⟨vs, h2, by rw [enumL_length, r.length]; exact Nat.le_refl _⟩, fun i d e => ?_⟩
    obtain ⟨x, ex, rfl⟩ := enumL_get e
    obtain ⟨y, ey, ry⟩ := seq_later r k ex
    refine ⟨⟨vs, y, h2, ey⟩, fun z H3 hz => ?_⟩
    obtain ⟨T, y', rfl, hT, rfl, hy⟩ := hz
    have e4 := hy vs h2
    rw [ey] at e4; cases e4
    exact ⟨Same.new hT _, fun F' hF al => rep_pair al hT (.int _) (ry F' hF)⟩
theorem iters_enL (r : Rep K F H (.lst ds) v) : ∃ a, v = .ref a ∧ (∃ xs, SqL K H a xs) ∧ Iters K F H (Ite K a) (enumL ds) := by
  cases r with
  | lst h n r => exact iters_enK (.kls (SqL.of h) (.inl n) r)
def zipL (ds es : List D) : List D := (ds.zip es).map fun p => .tup [p.1, p.2]
theorem zipL_get {i : Nat} {d : D} (h : (zipL ds es)[i]? = some d) : ∃ x y, ds[i]? = some x ∧ es[i]? = some y ∧ d = .tup [x, y] := by
  unfold zipL at h
  rw [List.getElem?_map] at h
  cases e : (ds.zip es)[i]? with
  | none => rw [e] at h; cases h
  | some p =>
    rw [e] at h; cases h
    obtain ⟨h1, h2⟩ := List.getElem?_zip_eq_some.mp e
    exact ⟨p.1, p.2, h1, h2, rfl⟩
theorem iters_zipT (r : Rep K F H (.tup ds) v) (r' : Rep K F H (.tup es) u) : ∃ a b, v = .ref a ∧ u = .ref b ∧ (∃ xs, SqT K H a xs) ∧ (∃ ys, SqT K H b ys) ∧ Iters K F H (RZ.ItzT K a b) (zipL ds es) := by
  cases r with
  | @tup a vs _ h n r =>
    cases r' with
    | @tup b us _ h' n' r' =>
      refine ⟨a, b, rfl, rfl, ⟨vs, h⟩, ⟨us, h'⟩, fun H2 k => ?_⟩
      have h2 := sqT_later h n k
      have h2' := sqT_later h' n' k
      refine ⟨⟨vs, us, h2, h2', by simp only [zipL, List.length_map, List.length_zip, r.length, r'.length]; omega⟩, fun i d e => ?_⟩
      obtain ⟨x, x', ex, ex', rfl⟩ := zipL_get e
      obtain ⟨y, ey, ry⟩ := seq_later r k ex
      obtain ⟨y', ey', ry'⟩ := seq_later r' k ex'
      refine ⟨⟨vs, us, y, y', h2, h2', ey, ey'⟩, fun z H3 hz => ?_⟩
      obtain ⟨T, z1, z2, rfl, hT, rfl, hy, hy'⟩ := hz
      have e4 := hy vs h2
      rw [ey] at e4; cases e4
      have e5 := hy' us h2'
      rw [ey'] at e5; cases e5
      exact ⟨Same.new hT _, fun F' hF al => rep_pair al hT (ry F' hF) (ry' F' hF)⟩
theorem iters_zipK (r : Rep K F H (.kls ds) v) (r' : Rep K F H (.kls es) u) : ∃ a b, v = .ref a ∧ u = .ref b ∧ (∃ xs, SqL K H a xs) ∧ (∃ ys, SqL K H b ys) ∧ Iters K F H (Itz K a b) (zipL ds es) := by
  cases r with
  | @kls a vs _ h n r =>
    cases r' with
    | @kls b us _ h' n' r' =>
      refine ⟨a, b, rfl, rfl, ⟨vs, h⟩, ⟨us, h'⟩, fun H2 k => ?_⟩
      have h2 := sqL_later h n k
      have h2' := sqL_later h' n' k
      refine ⟨⟨vs, us, h2, h2', by simp only [zipL, List.length_map, List.length_zip, r.length, r'.length]; omega⟩, fun i d e => ?_⟩
      obtain ⟨x, x', ex, ex', rfl⟩ := zipL_get e
      obtain ⟨y, ey, ry⟩ := seq_later r k ex
      obtain ⟨y', ey', ry'⟩ := seq_later r' k ex'
      refine ⟨⟨vs, us, y, y', h2, h2', ey, ey'⟩, fun z H3 hz => ?_⟩
      obtain ⟨T, z1, z2, rfl, hT, rfl, hy, hy'⟩ := hz
      have e4 := hy vs h2
      rw [ey] at e4; cases e4
      have e5 := hy' us h2'
      rw [ey'] at e5; cases e5
      exact ⟨Same.new hT _, fun F' hF al => rep_pair al hT (ry F' hF) (ry' F' hF)⟩
theorem Rep.lk {ds : List D} {v : V} (r : Rep K F H (.lst ds) v) : Rep K F H (.kls ds) v := by
  cases r with
  | lst h n r => exact .kls (SqL.of h) (.inl n) r
end
section
variable {X : Cx} {W : WX}
def menum (f : M D) : M (List D) := mbind f fun x => mopt ((itemsD x).map enumL)
theorem si_enum {f : M D} {e : Expr} {p pos tpos : Pos} {elts : List Expr} {kk : Nat} (hg : Gl X "enumerate") (hm : X.mg "enumerate" = none) (he : SE X W f e) (hs : starEach [e] X.env = [(false, eval e X.env)] := by rfl) :
    SI X W (menum f) (.Tuple elts kk tpos) (.Call (.Name "enumerate" p) [e] [] pos) := (pi_enumA hg hm (pa_cons he pa_nil hs) hs).imp fun σ H Rk ⟨F0, ρ, R, o⟩ => by
  refine seqE R o fun x ρ1 v H1 R1 S1 r1 o1 => ?_
  obtain ⟨ds, e, q⟩ := Out.opt o1
  cases x with
  | lst xs =>
    cases e
    obtain ⟨a, rfl, hx, hi⟩ := iters_enL r1
    exact ⟨a, rfl, .inl ⟨hx, q _ H1 R1 S1 hi⟩⟩
  | kls xs =>
    cases e
    obtain ⟨a, rfl, hx, hi⟩ := iters_enK r1
    exact ⟨a, rfl, .inl ⟨hx, q _ H1 R1 S1 hi⟩⟩
  | tup xs =>
    cases e
    obtain ⟨a, rfl, hx, hi⟩ := iters_enT r1
    exact ⟨a, rfl, .inr ⟨hx, q _ H1 R1 S1 hi⟩⟩
  | non => cases e
  | bl b => cases e
  | int b => cases e
  | str b => cases e
  | dik k b => cases e
  | dit k b => cases e
def zipD : D → D → Option (List D)
  | .tup xs, .tup ys => some (zipL xs ys)
  | .lst xs, .lst ys => some (zipL xs ys)
  | .lst xs, .kls ys => some (zipL xs ys)
  | .kls xs, .lst ys => some (zipL xs ys)
  | .kls xs, .kls ys => some (zipL xs ys)
  | _, _ => none
def mzip (f g : M D) : M (List D) := mbind f fun x => mbind g fun y => mopt (zipD x y)
theorem si_zip {f g : M D} {e e2 : Expr} {p pos tpos : Pos} {elts : List Expr} {kk : Nat} (hg : Gl X "zip") (hm : X.mg "zip" = none) (h1 : SE X W f e) (h2 : SE X W g e2)
    (hs : starEach [e, e2] X.env = (false, eval e X.env) :: starEach [e2] X.env := by rfl) (hs2 : starEach [e2] X.env = (false, eval e2 X.env) :: starEach [] X.env := by rfl) (hpl : (backTo pos (starEach [e2] X.env)).any (·.1) = false := by rfl) :
    SI X W (mzip f g) (.Tuple elts kk tpos) (.Call (.Name "zip" p) [e, e2] [] pos) := (RZ.pi_zipA hg hm (pa_cons h1 (pa_cons h2 pa_nil hs2) hs) hs hpl).imp fun σ H Rk ⟨F0, ρ, R, o⟩ => by
  refine seqE R o fun x ρ1 v H1 R1 S1 r1 o1 => seqE R1 o1 fun y ρ2 u H2 R2 S2 r2 o2 => ?_
  obtain ⟨ds, e, q⟩ := Out.opt o2
  have r1' := S2.rep r1
  unfold zipD at e
  split at e
  · cases e
    obtain ⟨a, b, rfl, rfl, ⟨xs, hx⟩, ⟨ys, hy⟩, hi⟩ := iters_zipT r1' r2
    exact ⟨a, b, xs, ys, rfl, .inr ⟨hx, hy, q _ H2 R2 (S1.trans S2) hi⟩⟩
  · cases e
    obtain ⟨a, b, rfl, rfl, ⟨xs, hx⟩, ⟨ys, hy⟩, hi⟩ := iters_zipK r1'.lk r2.lk
    exact ⟨a, b, xs, ys, rfl, .inl ⟨hx, hy, q _ H2 R2 (S1.trans S2) hi⟩⟩
  · cases e
    obtain ⟨a, b, rfl, rfl, ⟨xs, hx⟩, ⟨ys, hy⟩, hi⟩ := iters_zipK r1'.lk r2
    exact ⟨a, b, xs, ys, rfl, .inl ⟨hx, hy, q _ H2 R2 (S1.trans S2) hi⟩⟩
  · cases e
    obtain ⟨a, b, rfl, rfl, ⟨xs, hx⟩, ⟨ys, hy⟩, hi⟩ := iters_zipK r1' r2.lk
    exact ⟨a, b, xs, ys, rfl, .inl ⟨hx, hy, q _ H2 R2 (S1.trans S2) hi⟩⟩
  · cases e
    obtain ⟨a, b, rfl, rfl, ⟨xs, hx⟩, ⟨ys, hy⟩, hi⟩ := iters_zipK r1' r2
    exact ⟨a, b, xs, ys, rfl, .inl ⟨hx, hy, q _ H2 R2 (S1.trans S2) hi⟩⟩
  · cases e
/-! ### x += n -/
def maug (op : Int → Int → Int) (i : Nat) (f : M D) : M Flow := fun ρ => match ρ[i]? with
  | some (some (.d (.int a))) => (mbind f fun y => match y with
    | .int b => mstore i (.d (.int (op a b)))
    | _ => mbad) ρ
  | _ => .bad
def addI (a b : Int) : Int := a + b
def subI (a b : Int) : Int := a - b
theorem aug_of {op : Int → Int → Int} {i : Nat} {f : M D} : ∀ Ds σ H, tS X W (maug op i f) Ds σ H → tAug i (tE X W f) (ipI op) Ds σ H := fun Ds σ H ⟨F0, ρ, R, o⟩ => by
  unfold maug at o
  split at o
  · rename_i a ea
    obtain ⟨v, e1, r⟩ := R.dat i _ ea
    refine ⟨v, e1, sqE R o fun y ρ1 u H1 R1 S1 r1 o1 => ?_⟩
    cases y with
    | int b =>
      refine ⟨a, b, r.v_int, r1.v_int, ?_⟩
      obtain ⟨hi, hn, o2⟩ := store_cases (P := OutS X W F0 ρ1 σ H1 Ds) (fun z => z) o1
      obtain ⟨R2, less⟩ := R1.setD (.int (op a b)) hi
      exact o2 _ H1 R2 (Stp.set hn.1 hn.2 fun a z => .inl (less a z))
    | non => exact o1.elim
    | bl b => exact o1.elim
    | str b => exact o1.elim
    | tup b => exact o1.elim
    | lst b => exact o1.elim
    | kls b => exact o1.elim
    | dik k b => exact o1.elim
    | dit k b => exact o1.elim
  · exact o.elim
theorem ss_aug_add {i : Nat} {x : Str} {e : Expr} {f : M D} {pos pos' : Pos} (hN : X.N.Nodup) (hi : X.N[i]? = some x) (hx : Loc X.env.scope x) (he : SE X W f e) (hf : X.fn x = true ∨ X.env.scope.names.lookup x = some .local := by first | exact .inl rfl | exact .inr rfl | assumption) :
    SS X W (maug addI i f) (.AugAssign (.Name x pos') .Add e pos) := (ps_aug hN hi hx he ip_add hf).imp fun Ds σ H h => aug_of Ds σ H h
theorem ss_aug_sub {i : Nat} {x : Str} {e : Expr} {f : M D} {pos pos' : Pos} (hN : X.N.Nodup) (hi : X.N[i]? = some x) (hx : Loc X.env.scope x) (he : SE X W f e) (hf : X.fn x = true ∨ X.env.scope.names.lookup x = some .local := by first | exact .inl rfl | exact .inr rfl | assumption) :
    SS X W (maug subI i f) (.AugAssign (.Name x pos') .Sub e pos) := (ps_aug hN hi hx he ip_sub hf).imp fun Ds σ H h => aug_of Ds σ H h
end
end Z

/-! Z: lists of lists that a slot owns -/
namespace Z
open PySem L2
section
variable {K : PySem.W.Frag} {F F0 : Addr → Prop} {H : Hp} {ρ : En} {σ : St}
theorem Els.get_d : ∀ {es : List El} {vs : List V} {k : Nat} {x : D}, Els K F H es vs → es[k]? = some (.d x) → ∃ v, vs[k]? = some v ∧ Rep K F H x v
  | _, _, _, _, .nil, e => by simp at e
  | _, _, 0, _, .d h _, e => by simp at e; subst e; exact ⟨_, rfl, h⟩
  | _, _, 0, _, .p _ _ _, e => by simp at e
  | _, _, k + 1, _, .d _ r, e => by simpa using Els.get_d (k := k) r (by simpa using e)
  | _, _, k + 1, _, .p _ _ r, e => by simpa using Els.get_d (k := k) r (by simpa using e)
theorem Els.get_p : ∀ {es : List El} {vs : List V} {k : Nat} {c : Addr} {ds : List D}, Els K F H es vs → es[k]? = some (.p c ds) → vs[k]? = some (.ref c) ∧ (∃ ws, H c = some (.lst ws) ∧ Reps K F H ds ws) ∧ c ∈ innE es
  | _, _, _, _, _, .nil, e => by simp at e
  | _, _, 0, _, _, .d h _, e => by simp at e
  | _, _, 0, _, _, .p h r _, e => by
    simp at e
    obtain ⟨rfl, rfl⟩ := e
    exact ⟨rfl, ⟨_, h, r⟩, List.mem_cons_self⟩
  | _, _, k + 1, _, _, .d _ r, e => by
    obtain ⟨h1, h2, h3⟩ := Els.get_p (k := k) r (by simpa using e)
    exact ⟨by simpa using h1, h2, h3⟩
  | _, _, k + 1, _, _, .p _ _ r, e => by
    obtain ⟨h1, h2, h3⟩ := Els.get_p (k := k) r (by simpa using e)
    exact ⟨by simpa using h1, h2, List.mem_cons_of_mem _ h3⟩
theorem Els.length : ∀ {es : List El} {vs : List V}, Els K F H es vs → es.length = vs.length
  | _, _, .nil => rfl
  | _, _, .d _ r => congrArg (· + 1) r.length
  | _, _, .p _ _ r => congrArg (· + 1) r.length
theorem innE_set_d : ∀ {es : List El} {k : Nat} {x y : D}, es[k]? = some (.d x) → innE (es.set k (.d y)) = innE es
  | [], _, _, _, e => by simp at e
  | .d z :: r, 0, _, _, e => rfl
  | .p c ds :: r, 0, _, _, e => by simp at e
  | .d z :: r, k + 1, x, y, e => innE_set_d (es := r) (k := k) (x := x) (by simpa using e)
  | .p c ds :: r, k + 1, x, y, e => congrArg (c :: ·) (innE_set_d (es := r) (k := k) (x := x) (y := y) (by simpa using e))
theorem innE_set_p : ∀ {es : List El} {k : Nat} {c : Addr} {ds ds' : List D}, es[k]? = some (.p c ds) → innE (es.set k (.p c ds')) = innE es
  | [], _, _, _, _, e => by simp at e
  | .d z :: r, 0, _, _, _, e => by simp at e
  | .p c ds :: r, 0, _, _, _, e => by simp at e; obtain ⟨rfl, rfl⟩ := e; rfl
  | .d z :: r, k + 1, c, ds, ds', e => innE_set_p (es := r) (k := k) (c := c) (ds := ds) (by simpa using e)
  | .p c' ds2 :: r, k + 1, c, ds, ds', e => congrArg (c' :: ·) (innE_set_p (es := r) (k := k) (c := c) (ds := ds) (ds' := ds') (by simpa using e))
theorem Els.set_d {H' : Hp} {F' : Addr → Prop} {y : D} {v : V} (hR : ∀ {x : D} {u : V}, Rep K F H x u → Rep K F' H' x u) (h : Rep K F' H' y v) : ∀ {es : List El} {vs : List V} {k : Nat} {x : D}, Els K F H es vs → es[k]? = some (.d x) → (∀ c ∈ innE es, H' c = H c) → Els K F' H' (es.set k (.d y)) (vs.set k v)
  | _, _, _, _, .nil, e, _ => by simp at e
  | _, _, 0, _, .d _ r, _, k => .d h (all hR r k)
  | _, _, 0, _, .p _ _ _, e, _ => by simp at e
  | _, _, n + 1, _, .d q r, e, k => .d (hR q) (Els.set_d hR h (k := n) r (by simpa using e) k)
  | _, _, n + 1, _, .p a q r, e, k => .p ((k _ List.mem_cons_self).trans a) (Reps.all hR q) (Els.set_d hR h (k := n) r (by simpa using e) fun c hc => k c (List.mem_cons_of_mem _ hc))
where all {H' : Hp} {F' : Addr → Prop} (hR : ∀ {x : D} {u : V}, Rep K F H x u → Rep K F' H' x u) : ∀ {es : List El} {vs : List V}, Els K F H es vs → (∀ c ∈ innE es, H' c = H c) → Els K F' H' es vs
  | _, _, .nil, _ => .nil
  | _, _, .d q r, k => .d (hR q) (all hR r k)
  | _, _, .p a q r, k => .p ((k _ List.mem_cons_self).trans a) (Reps.all hR q) (all hR r fun c hc => k c (List.mem_cons_of_mem _ hc))
theorem Els.set_p {H' : Hp} {F' : Addr → Prop} {ds' : List D} {ws' : List V} {c : Addr} (hR : ∀ {x : D} {u : V}, Rep K F H x u → Rep K F' H' x u) (hc : H' c = some (.lst ws')) (h : Reps K F' H' ds' ws') (hk : ∀ b, b ≠ c → ∀ o, H b = some o → H' b = some o) : ∀ {es : List El} {vs : List V} {k : Nat} {ds : List D}, Els K F H es vs → es[k]? = some (.p c ds) → (innE es).Nodup → Els K F' H' (es.set k (.p c ds')) vs
  | _, _, _, _, .nil, e, _ => by simp at e
  | _, _, 0, _, .d _ _, e, _ => by simp at e
  | _, _, 0, _, .p a q r, e, nd => by
    simp at e
    obtain ⟨rfl, rfl⟩ := e
    have nd : (_ :: innE _).Nodup := nd
    rw [List.nodup_cons] at nd
    refine .p hc h (Els.set_d.all hR r fun b hb => ?_)
    obtain ⟨o, ho⟩ := r.alc hb
    rw [ho, hk b (fun z => by subst z; exact nd.1 hb) o ho]
  | _, _, n + 1, _, .d q r, e, nd => .d (hR q) (Els.set_p hR hc h hk (k := n) r (by simpa using e) nd)
  | _, _, n + 1, _, .p (c := b) a q r, e, nd => by
    have nd : (b :: innE _).Nodup := nd
    rw [List.nodup_cons] at nd
    have hm := (Els.get_p (k := n) r (by simpa using e)).2.2
    exact .p (hk b (fun z => by subst z; exact nd.1 hm) _ a) (Reps.all hR q) (Els.set_p hR hc h hk (k := n) r (by simpa using e) nd.2)
theorem Rl.tre (R : Rl K F0 ρ σ H) {i : Nat} {b : Bool} {es : List El} (e : ρ[i]? = some (some (.tre b es))) : ∃ a vs, σ[i]? = some (some (.ref a)) ∧ H a = some (.lst vs) ∧ Els K (Fav F0 ρ σ) H es vs ∧ (a :: innE es).Nodup := by
  obtain ⟨a, e1, r, n⟩ := R.own i _ rfl e
  cases r with
  | tre h r nd => exact ⟨a, _, e1, h, r, nd⟩
/-- one address of the tree is written -/
theorem Rl.treSet (R : Rl K F0 ρ σ H) {i : Nat} {b : Bool} {es es' : List El} {a q : Addr} {us : List V} (e : ρ[i]? = some (some (.tre b es))) (s : σ[i]? = some (some (.ref a))) (hq : q = a ∨ q ∈ innE es) (hi : innE es' = innE es)
    (hold : (∀ {x : D} {y : V}, Rep K (Fav F0 ρ σ) H x y → Rep K (Fav F0 (ρ.set i (some (.tre b es'))) σ) (upd H q (.lst us)) x y) → Hold K (Fav F0 (ρ.set i (some (.tre b es'))) σ) (upd H q (.lst us)) (.tre b es') a) :
    Rl K F0 (ρ.set i (some (.tre b es'))) σ (upd H q (.lst us)) ∧ Stp ρ σ H (ρ.set i (some (.tre b es'))) σ (upd H q (.lst us)) := by
  have hil : i < ρ.length := (List.getElem?_eq_some_iff.mp e).1
  have es0 : σ.set i (some (.ref a)) = σ := set_same s
  have oa : ∀ c, (SV.tre b es').has (some (some (.ref a))) c → OwnAt ρ σ i c := fun c hc => by
    refine ⟨_, e, ?_⟩
    rw [s]
    rcases hc with hc | hc
    · exact .inl hc
    · exact .inr (by show c ∈ innE es; rw [← hi]; exact hc)
  have oq : OwnAt ρ σ i q := by
    refine oa q ?_
    rcases hq with rfl | hq
    · exact .inl ⟨rfl, rfl⟩
    · exact .inr (by show q ∈ innE es'; rw [hi]; exact hq)
  obtain ⟨R1, S1⟩ := R.set (w := some (.tre b es')) (v := some (.ref a)) (H' := upd H q (.lst us)) hil (fun c o e n => by rw [upd_ne fun z => n (by rw [z]; exact oq)]; exact e) (fun c z => by
      by_cases h : c = q
      · rw [h, upd_same] at z; cases z
      · rw [upd_ne h] at z; exact z) (fun u c e s => by cases e; exact .inl (oa c s)) (fun ds e2 => by rw [e] at e2; cases e2) (fun es2 e2 => by rw [e] at e2; cases e2; exact ⟨s, _, rfl, hi⟩) fun k => ⟨a, rfl, by rw [es0] at k ⊢; exact hold k⟩
  rw [es0] at R1 S1
  exact ⟨R1, S1⟩
end
section
variable {X : Cx} {W : WX}
/-- element k of slot i's tree, as data -/
def mtix (i k : Nat) : M D := fun ρ => match ρ[i]? with
  | some (some (.tre _ es)) => match es[k]? with
    | some (.d x) => .ok x ρ
    | _ => .bad
  | _ => .bad
theorem se_tix {i k : Nat} {a b : Expr} {pos : Pos} (ha : PE X a (tVar i)) (hb : PE X b (tC (.int (k : Int)))) (hs : PlainIx b) : SE X W (mtix i k) (.Subscript a b pos) := (pe_ix ix_seq ha hb hs).imp fun σ H Q ⟨F0, ρ, R, o⟩ => by
  unfold mtix at o
  split at o
  · rename_i bb es e
    split at o
    · rename_i x ex
      obtain ⟨a, vs, e1, e2, r, _⟩ := R.tre e
      obtain ⟨v, ev, rv⟩ := r.get_d ex
      exact ⟨_, e1, .inl ⟨a, vs, _, v, rfl, rfl, SqL.of e2, by rw [atI_nat]; exact ev, o v H R (Stp.refl _ _ _) rv⟩⟩
    · exact o.elim
  · exact o.elim
end
end Z
namespace Z
open PySem L2
section
variable {X : Cx} {W : WX}
/-- the list at element k of slot i's tree: how long -/
def mtlen (i k : Nat) : M D := fun ρ => match ρ[i]? with
  | some (some (.tre _ es)) => match es[k]? with
    | some (.p _ ds) => .ok (.int (ds.length : Nat)) ρ
    | _ => .bad
  | _ => .bad
/-- .. its element n taken out -/
def mtpop (i k : Nat) (n : Int) : M D := fun ρ => match ρ[i]? with
  | some (some (.tre b es)) => match es[k]? with
    | some (.p c ds) => match popAtD ds (.int n) with
      | some z => .ok z.1 (ρ.set i (some (.tre b (es.set k (.p c z.2)))))
      | none => .bad
    | _ => .bad
  | _ => .bad
/-- element k of slot i's tree becomes data -/
def mtset (i k : Nat) (f : M D) : M Flow := mbind f fun x ρ => match ρ[i]? with
  | some (some (.tre b es)) => match es[k]? with
    | some (.d _) => .ok .nx (ρ.set i (some (.tre b (es.set k (.d x)))))
    | _ => .bad
  | _ => .bad
theorem ss_tset {i k : Nat} {f : M D} {o ix e : Expr} {tpos pos : Pos} (ho : PE X o (tVar i)) (hg : PE X ix (tC (.int (k : Int)))) (hf : SE X W f e) (hs : swapsWithSole [.Subscript o ix tpos] e pos.line X.env = pure false := by rfl) (hw : swappedStores [.Subscript o ix tpos] e X.env = pure none := by rfl)
    (h1 : (assignEach [.Subscript o ix tpos] X.env).map (·.2) = [assign (.Subscript o ix tpos) X.env] := by rfl)
    (ha : ∀ v, assign (.Subscript o ix tpos) X.env v = (do
      let ov ← holding [v] (eval o X.env)
      let iv ← holding [v, ov] (eval ix X.env)
      standAt tpos
      holding [v, ov, iv] (setItem ov iv v)
      release [v, ov, iv] []) := by intro _; rfl) : SS X W (mtset i k f) (.Assign [.Subscript o ix tpos] e pos) :=
  (ps_asg hf (pg_sub ho hg set_list ha) hs hw h1).imp fun D σ H ⟨F0, ρ, R, o⟩ => by
    refine sqE R o fun x ρ1 v H1 R1 S1 r1 o1 => ?_
    split at o1
    · rename_i b es e
      split at o1
      · rename_i y ey
        obtain ⟨a, vs, e1, e2, r, nd⟩ := R1.tre e
        obtain ⟨u, eu, _⟩ := r.get_d ey
        have hk : k < vs.length := (List.getElem?_eq_some_iff.mp eu).1
        refine ⟨_, e1, a, vs, _, k, rfl, rfl, e2, by unfold ixN; rw [if_pos (by omega), if_pos (by omega)]; simp, ?_⟩
        obtain ⟨R2, S2⟩ := R1.treSet (us := vs.set k v) (es' := es.set k (.d x)) e e1 (.inl rfl) (innE_set_d ey) fun m => .tre upd_same (Els.set_d m (m r1) r ey fun c hc => by
          rw [List.nodup_cons] at nd
          rw [upd_ne fun z => nd.1 (by rw [← z]; exact hc)]) (by rw [innE_set_d ey]; exact nd)
        exact o1 σ _ R2 S2
      · exact o1.elim
    · exact o1.elim
/-- element k of slot i's tree, a list: what its address holds -/
theorem tre_at {F0 : Addr → Prop} {ρ : En} {σ : St} {H : Hp} {i k : Nat} {b : Bool} {es : List El} {c : Addr} {ds : List D} (R : Rl X.K F0 ρ σ H) (e : ρ[i]? = some (some (.tre b es))) (ek : es[k]? = some (.p c ds)) :
    ∃ a vs ws, σ[i]? = some (some (.ref a)) ∧ H a = some (.lst vs) ∧ atI vs (k : Int) = some (.ref c) ∧ H c = some (.lst ws) ∧ Reps X.K (Fav F0 ρ σ) H ds ws ∧ Els X.K (Fav F0 ρ σ) H es vs ∧ (a :: innE es).Nodup ∧ c ∈ innE es := by
  obtain ⟨a, vs, e1, e2, r, nd⟩ := R.tre e
  obtain ⟨h1, ⟨ws, h2, h3⟩, h4⟩ := r.get_p ek
  exact ⟨a, vs, ws, e1, e2, by rw [atI_nat]; exact h1, h2, h3, r, nd, h4⟩
theorem se_tlen {i k : Nat} {a b : Expr} {p ppos pos : Pos} (ha : PE X a (tVar i)) (hb : PE X b (tC (.int (k : Int)))) (hs : PlainIx b)
    (h : ∀ {to : TE}, PE X (.Subscript a b pos) to → PE X (.Call (.Name "len" p) [.Subscript a b pos] [] ppos) (fun σ H Q => to σ H fun v H1 => ∃ x n, [v] = [x] ∧ LenV X.K x H1 n ∧ Q (.int n) H1)) :
    SE X W (mtlen i k) (.Call (.Name "len" p) [.Subscript a b pos] [] ppos) := (h (pe_ix ix_seq ha hb hs)).imp fun σ H Q ⟨F0, ρ, R, o⟩ => by
  unfold mtlen at o
  split at o
  · rename_i bb es e
    split at o
    · rename_i c ds ek
      obtain ⟨a, vs, ws, e1, e2, e3, e4, r, _⟩ := tre_at R e ek
      exact ⟨_, e1, .inl ⟨a, vs, _, _, rfl, rfl, SqL.of e2, e3, _, _, rfl, .inl ⟨ws, SqL.of e4, rfl⟩, by rw [← r.length]; exact o _ H R (Stp.refl _ _ _) (.int _)⟩⟩
    · exact o.elim
  · exact o.elim
theorem se_tpop {i k : Nat} {n : Int} {a b e : Expr} {apos cpos pos : Pos} (ha : PE X a (tVar i)) (hb : PE X b (tC (.int (k : Int)))) (hs : PlainIx b) (hg : PE X e (tC (.int n)))
    (h : ∀ {to : TE} {t : TA}, PE X (.Subscript a b pos) to → PA X [e] t → PE X (.Call (.Attribute (.Subscript a b pos) "pop" apos) [e] [] cpos) (tBM X.K "list" rPopAt to t)) (hst : starEach [e] X.env = (false, eval e X.env) :: starEach [] X.env := by rfl) :
    SE X W (mtpop i k n) (.Call (.Attribute (.Subscript a b pos) "pop" apos) [e] [] cpos) := (h (pe_ix ix_seq ha hb hs) (pa_cons hg pa_nil hst)).imp fun σ H Q ⟨F0, ρ, R, o⟩ => by
  unfold mtpop at o
  split at o
  · rename_i bb es e
    split at o
    · rename_i c ds ek
      split at o
      · rename_i z ez
        obtain ⟨a, vs, ws, e1, e2, e3, e4, r, rE, nd, hc⟩ := tre_at R e ek
        refine ⟨_, e1, .inl ⟨a, vs, _, _, rfl, rfl, SqL.of e2, e3, .inl ⟨rfl, _, SqL.of e4⟩, ?_⟩⟩
        refine sem_popAt (X := X) e4 r (.int n) ez fun ws' w r1 r2 => ?_
        have nd' := nd
        rw [List.nodup_cons] at nd'
        obtain ⟨R2, S2⟩ := R.treSet (us := ws') (es' := es.set k (.p c z.2)) e e1 (.inr hc) (innE_set_p ek) fun m => .tre (by rw [upd_ne fun q => nd'.1 (by rw [q]; exact hc)]; exact e2) (Els.set_p m upd_same (Reps.all m r1) (fun q hq o ho => by rw [upd_ne hq]; exact ho) rE ek nd'.2) (by rw [innE_set_p ek]; exact nd)
        exact o w _ R2 S2 (S2.rep r2)
      · exact o.elim
    · exact o.elim
  · exact o.elim
end
end Z
namespace Z
open PySem L2
section
variable {K : PySem.W.Frag} {F0 : Addr → Prop} {ρ : En} {σ : St} {H : Hp}
/-- a slot's list let go of: the rest keeps from it -/
theorem Rl.letgo (R : Rl K F0 ρ σ H) {j : Nat} {ds : List D} {g : Addr} {us : List V} (e : ρ[j]? = some (some (.own false ds))) (e1 : σ[j]? = some (some (.ref g))) (e2 : H g = some (.lst us)) : Rl K (plus F0 g) (ρ.set j none) σ H ∧ Stp ρ σ H (ρ.set j none) σ H := by
  have oa : OwnAt ρ σ j g := ⟨_, e, .inl ⟨rfl, e1⟩⟩
  have sub : ∀ (k : Nat) (u : SV), (ρ.set j none)[k]? = some (some u) → k ≠ j ∧ ρ[k]? = some (some u) := fun k u ej => by
    rcases set_get ej with ⟨_, z⟩ | ⟨ne, ej⟩
    · cases z
    · exact ⟨ne, ej⟩
  have m : ∀ c, Fav (plus F0 g) (ρ.set j none) σ c → Fav F0 ρ σ c ∨ H c = none := fun c z => by
    rcases z with (z | z) | ⟨k, u, ej, s⟩
    · exact .inl (.inl z)
    · rw [z]; exact .inl (.inr oa.own)
    · exact .inl (.inr ⟨k, u, (sub k _ ej).2, s⟩)
  have m2 : ∀ c o, H c = some o → ¬ Fav F0 ρ σ c → H c = some o := fun _ _ e _ => e
  refine ⟨⟨by rw [List.length_set]; exact R.len, fun k y ej => ?_, fun k u w ej => ?_, fun k l u1 u2 c ej ek sj sk => ?_, fun c z => ?_, fun k q ej => R.obj k q (sub k _ ej).2⟩, ⟨fun _ _ e _ => e, fun c ⟨k, u, ej, s⟩ => .inl ⟨k, u, (sub k _ ej).2, s⟩, fun _ e => e, fun k es ej => ?_, fun k es ej => ?_, List.length_set⟩⟩
  · obtain ⟨v, f1, f2⟩ := R.dat k y (sub k _ ej).2
    exact ⟨v, f1, f2.mono m m2⟩
  · obtain ⟨ne, ej⟩ := sub k _ ej
    obtain ⟨c, f1, f3, f4⟩ := R.own k u w ej
    refine ⟨c, f1, f3.mono m m2 fun _ _ => rfl, fun c' hc z => z.elim (f4 c' hc) fun q => ?_⟩
    subst q
    exact ne (R.inj k j u _ c' ej e hc (.inl ⟨rfl, e1⟩))
  · exact R.inj k l u1 u2 c (sub k _ ej).2 (sub l _ ek).2 sj sk
  · rcases z with z | z
    · exact R.alc c z
    · exact ⟨_, by rw [z]; exact e2⟩
  · have ne : k ≠ j := fun z => by rw [z, e] at ej; cases ej
    exact ⟨rfl, es, by rw [List.getElem?_set_ne (Ne.symm ne)]; exact ej⟩
  · have ne : k ≠ j := fun z => by rw [z, e] at ej; cases ej
    exact ⟨rfl, es, by rw [List.getElem?_set_ne (Ne.symm ne)]; exact ej, rfl⟩
theorem innE_data (xs : List D) : innE (xs.map El.d) = [] := by
  induction xs with
  | nil => rfl
  | cons x r ih => exact ih
theorem shapeE_data (xs : List D) : shapeE (xs.map El.d) = xs.map TL.d := by
  induction xs with
  | nil => rfl
  | cons x r ih => exact congrArg (TL.d x :: ·) ih
theorem Els.data_of {F : Addr → Prop} : ∀ {xs : List D} {vs : List V}, Reps K F H xs vs → Els K F H (xs.map El.d) vs
  | _, _, .nil => .nil
  | _, _, .cons h r => .d h (Els.data_of r)
end
section
variable {X : Cx} {W : WX}
/-- return [the list of slot j, data ..] -/
def mretT (j : Nat) (fs : M (List D)) : M Flow := fun ρ => match ρ[j]? with
  | some (some (.own false _)) => mbind fs (fun xs ρ1 => match ρ1[j]? with
    | some (some (.own false ds)) => if xs.length < 1000 then .ok (.rtr (.l ds :: xs.map TL.d)) (ρ1.set j none) else .bad
    | _ => .bad) ρ
  | _ => .bad
theorem ss_retT {j : Nat} {fs : M (List D)} {e0 : Expr} {es : List Expr} {lpos pos : Pos} (h0 : PE X e0 (tVar j)) (hs : SA X W fs es) (hst : starEach (e0 :: es) X.env = (false, eval e0 X.env) :: starEach es X.env := by rfl) :
    SS X W (mretT j fs) (.Return (some (.List (e0 :: es) lpos)) pos) := (ps_ret (pe_lst (pa_cons h0 hs hst))).imp fun D σ H ⟨F0, ρ, R, o⟩ => by
  unfold mretT at o
  split at o
  · rename_i ds0 e0
    obtain ⟨g0, us0, s0, _⟩ := R.lst j false ds0 e0
    refine ⟨_, s0, ?_⟩
    have o : OutS X W F0 ρ σ H D (mbind fs _ ρ) := o
    refine ⟨F0, ρ, R, o.bind.imp fun xs ρ1 o1 vs H1 R1 S1 r1 => ?_⟩
    split at o1
    · rename_i ds e
      split at o1
      · rename_i hz
        obtain ⟨g, us, s1, hg, rg, ng⟩ := R1.lst j false ds e
        rw [s0] at s1; cases s1
        refine ⟨by rw [List.length_cons, ← r1.length]; exact k1000 (by omega), fun p hp => ?_⟩
        have gp : g0 ≠ p := fun z => by rw [z, hp] at hg; cases hg
        obtain ⟨RA, SA⟩ := R1.letgo e s0 hg
        have k := Same.new hp (.lst (.ref g0 :: vs))
        have RB := RA.more k hp ⟨_, upd_same⟩
        have hin : innE (.p g0 ds :: xs.map El.d) = [g0] := congrArg (g0 :: ·) (innE_data xs)
        have sub : ∀ a, plusT F0 p (.p g0 ds :: xs.map El.d) a → plus (plus F0 g0) p a := fun a z => by
          rcases z with z | z | z
          · exact .inl (.inl z)
          · exact .inr z
          · rw [hin, List.mem_singleton] at z
            exact .inl (.inr z)
        have S2 := S1.trans (SA.trans (Stp.same k))
        have m : ∀ a, Fav (plusT F0 p (.p g0 ds :: xs.map El.d)) (ρ1.set j none) σ a → Fav F0 ρ1 σ a ∨ H1 a = none := fun a z => by
          rcases z with z | z
          · rcases sub a z with (z | z) | z
            · exact .inl (.inl z)
            · rw [z]; exact .inl (.inr ⟨j, _, e, .inl ⟨rfl, s0⟩⟩)
            · rw [z]; exact .inr hp
          · exact (SA.own a z).imp .inr id
        refine o1 p (.p g0 ds :: xs.map El.d) σ _ (RB.less sub) S2 (fun c hc => ?_) (by show TL.l ds :: shapeE _ = _; rw [shapeE_data]) (.tre upd_same (.p (by rw [upd_ne gp]; exact hg) (rg.mono m fun a o e _ => k a o e) (Els.data_of (r1.mono m fun a o e _ => k a o e))) ?_)
        · rcases hc with rfl | hc
          · exact .inr (S1.trk _ hp)
          · rw [hin, List.mem_singleton] at hc
            subst hc
            exact S1.own _ ⟨j, _, e, .inl ⟨rfl, s0⟩⟩
        · rw [hin]
          simp
          exact fun z => gp z.symm
      · exact o1.elim
    · exact o1.elim
  · exact o.elim
end
end Z

/-! Z: a call that gives a new list of lists, the rest of the block behind it -/
namespace Z
open PySem L2
section
variable {X : Cx} {W : WX}
def noIo (ρ : En) : Bool := ρ.all fun u => match u with
  | some w => !w.isIo
  | none => true
theorem noIo_at {ρ : En} (h : noIo ρ = true) {i : Nat} {u : SV} (e : ρ[i]? = some (some u)) : u.isIo = false := by
  have := List.all_eq_true.mp h _ (List.mem_of_getElem? e)
  simpa using this
def nones (ρ : En) : En := List.replicate ρ.length none
theorem nones_no {ρ : En} {i : Nat} {u : SV} : (nones ρ)[i]? ≠ some (some u) := fun e => by
  unfold nones at e
  rw [List.getElem?_replicate] at e
  split at e <;> cases e
open Classical in
/-- the rest, wherever the new lists lie: it comes to one answer -/
noncomputable def allT (i : Nat) (ts : List TL) (rest : M Flow) (ρ0 ρ : En) : Rs Flow :=
  if h : (i < ρ.length ∧ noOwn ρ i = true) ∧ ∃ x, ∀ es, shapeE es = ts → ∃ ρ', rest (ρ.set i (some (.tre false es))) = .ok (.rt x) ρ' then .ok (.rt (choose h.2)) (nones ρ0) else .bad
noncomputable def mnewT (i : Nat) (m : Fn) (args : List Arg) (rest : M Flow) : M Flow := fun ρ => if noIo ρ = true then mbind (margs args) (fun svs ρ1 => match m svs with
  | .ok (.ftr ts) outs => match wback args outs ρ1 with
    | some ρ2 => allT i ts rest ρ ρ2
    | none => .bad
  | _ => .bad) ρ else .bad
theorem newT_of {np i : Nat} {m : Fn} {args : List Arg} {rest : M Flow} (nd : (ios args).Nodup) (hnp : args.length = np) : ∀ D σ H, tS X W (mnewT i m args rest) D σ H → tCallS (spM X.K X.mg np m) (WE W) (tArgs X W args) σ H fun x H1 => tS X W rest D (σ.set i (some x)) H1 := fun D σ H ⟨F0, ρ, R, o⟩ => by
  unfold mnewT at o
  by_cases hio : noIo ρ = true
  case neg => simp only [if_neg hio] at o; exact o.elim
  simp only [if_pos hio] at o
  refine ⟨F0, ρ, R, (OutS.bind o).imp fun svs ρ1 o1 vs F1 H1 k1 k2 R1 S1 r1 => ?_⟩
  obtain ⟨pas, Rc, iff⟩ := call_in R1 r1 nd
  refine ⟨by rw [← r1.len.2]; exact hnp, svs, _, Rc, fun i u e w => (r1.at_io e w).1, ?_⟩
  cases em : m svs with
  | bad => rw [em] at o1; exact o1.elim
  | exc ex outs => rw [em] at o1; exact o1.elim
  | ok rv outs =>
    rw [em] at o1
    cases rv with
    | d y => exact o1.elim
    | fresh ds => exact o1.elim
    | ftr ts =>
      simp only at o1
      cases ew : wback args outs ρ1 with
      | none => rw [ew] at o1; exact o1.elim
      | some ρ2 =>
        rw [ew] at o1
        intro p es H' A hp hsh r
        have iff2 : ∀ a, Fav (plusT F1 p es) ρ1 σ a → FavC (plusT (fun a => Fav F1 ρ1 σ a ∧ ¬ Pas svs vs a) p es) svs vs a := fun a z => by
          rcases z with (z | z) | z
          · exact ((iff a).mpr (.inl z)).imp .inl id
          · exact .inl (.inr z)
          · exact ((iff a).mpr (.inr z)).imp .inl id
        have al : ∀ c, c = p ∨ c ∈ innE es → ∃ o, H' c = some o := fun c hc => r.alc (hc.elim (fun z => .inl ⟨rfl, by rw [z]⟩) .inr)
        obtain ⟨R2, S2, ow⟩ := call_out R1 S1 r1 nd ew (G := plusT F1 p es) (fun a z => z.imp id (hp a)) (fun a z => z.elim (fun z => alc_go R1.alc A.trk a z) (al a)) iff2 A
        unfold allT at o1
        by_cases hh : (i < ρ2.length ∧ noOwn ρ2 i = true) ∧ ∃ x, ∀ es, shapeE es = ts → ∃ ρ', rest (ρ2.set i (some (.tre false es))) = .ok (.rt x) ρ'
        case neg => simp only [dif_neg hh] at o1; exact o1.elim
        simp only [dif_pos hh] at o1
        obtain ⟨hi, hn⟩ := hh.1
        have hx := Classical.choose_spec hh.2
        obtain ⟨ρ', er⟩ := hx es hsh
        have nF1 : ∀ c, c = p ∨ c ∈ innE es → ¬ F1 c := fun c hc z => by
          obtain ⟨o, e⟩ := R1.alc c z
          rw [hp c hc] at e; cases e
        have hasP : ∀ c, (SV.tre false es).has (some (some (.ref p))) c → c = p ∨ c ∈ innE es := fun c hc => hc.imp (fun ⟨_, e⟩ => by cases e; rfl) id
        obtain ⟨R3, less⟩ := R2.setP (P := fun c => c = p ∨ c ∈ innE es) (w := some (.tre false es)) (v := some (.ref p)) (H' := H') nF1 hi (fun _ _ e _ _ => e) (fun u c e s => by cases e; exact .inr (.inl (hasP c s))) fun k => ⟨p, rfl, r.mono (fun a z => by
            refine .inl (iff2 a ?_)
            rcases z with z | ⟨j, u, e, s⟩
            · exact .inl (.inl z)
            · by_cases hj : j = i
              · subst hj
                rw [List.getElem?_set_self hi] at e
                rw [List.getElem?_set_self (by rw [← R2.len]; exact hi)] at s
                cases e
                exact .inl (.inr (hasP a s))
              · rw [List.getElem?_set_ne (Ne.symm hj)] at e
                rw [List.getElem?_set_ne (Ne.symm hj)] at s
                exact .inr (ow a ⟨j, u, e, s⟩)) (fun _ _ e _ => e) fun _ _ => rfl⟩
        refine ⟨F0, _, R3.less k1, ?_⟩
        rw [er]
        intro v σ' H'' R' S' rx
        have pN : ∀ c, c = p ∨ c ∈ innE es → H c = none := fun c hc => S1.trk c (hp c hc)
        have own3 : ∀ a, Own (ρ2.set i (some (.tre false es))) (σ.set i (some (.ref p))) a → Own ρ σ a ∨ H a = none := fun a z => by
          rcases less a z with z | ⟨u, e, s⟩
          · exact S2.own a z
          · cases e; exact .inr (pN a (hasP a s))
        have lenE : (nones ρ).length = σ'.length := by
          rw [← R'.len, S'.len, List.length_set, S2.len]
          exact List.length_replicate ..
        obtain ⟨R4, l4⟩ := R'.sub (ρ' := nones ρ) (σ' := σ') lenE fun j u e => absurd e nones_no
        have S4 : Stp ρ σ H (nones ρ) σ' H'' := ⟨fun a o e n => S'.keep a o (S2.keep a o e n) fun z => (own3 a z).elim n fun q => (by rw [e] at q; cases q), fun a ⟨j, u, e, _⟩ => absurd e nones_no, fun a z => S2.trk a (S'.trk a z), fun j ds e => (by have := noIo_at hio e; cases this), fun j es e => (by have := noIo_at hio e; cases this), List.length_replicate ..⟩
        exact o1 v σ' H'' R4 S4 (rx.mono (fun a z => .inl (z.imp id (l4 a))) fun _ _ e _ => e)
end
end Z
namespace Z
open PySem L2
section
variable {X : Cx} {W : WX} {m : Fn} {args : List Arg} {k np : Nat} {f : Addr} {fd : FuncData} {ps : List Str} {x y : Str} {p pos pos' pos2 : Pos} {e : Expr} {es : List Expr}
theorem sss_newT {i : Nat} {rest : M Flow} {sts : List Stmt} (G : FnOk X.prog X.w X.K X.mg X.base (L2N.CX X.prog X.w) k f fd ps (spM X.K X.mg np m)) (hr : Room k X.A) (hg : Gl X x) (hm : X.mg x = some (.ref f)) (hk : PySem.W.keepIn X.K (.ref f) = true) (hb : Binds X.K fd ps []) (tk : L2N.Takes X W)
    (ha : SAr X W args (e :: es)) (hN : X.N.Nodup) (hi : X.N[i]? = some y) (hy : Loc X.env.scope y) (hrest : SSs X W rest sts) (nd : (ios args).Nodup := by first | decide | simp [ios]) (hnp : args.length = np := by rfl) (hdb : (x == ("__debug__" : Str)) = false := by decide) (he : starEach (e :: es) X.env = (false, eval e X.env) :: starEach es X.env := by rfl) (hpl : (backTo pos (starEach es X.env)).any (·.1) = false := by rfl)
    (hs : swapsWith (.Call (.Name x p) (e :: es) [] pos) (some (.Name y pos')) pos2.line X.env = pure false := by rfl) (hf : X.fn y = true ∨ X.env.scope.names.lookup y = some .local := by first | exact .inl rfl | exact .inr rfl | assumption) :
    SSs X W (mnewT i m args rest) (.Assign [.Name y pos'] (.Call (.Name x p) (e :: es) [] pos) pos2 :: sts) :=
  (pss_cons (ps_set hN hi hy (pe_callS G hr hg hm hk hb (fun σ => L2N.passAt tk σ) ha hdb he hpl) hs hf) hrest).imp (newT_of nd hnp)
end
end Z

/-! Z: a comprehension over a list while an exception is handled -/
namespace Z
open PySem PySem.Spec PyProof.Rows L2 HotX
section
variable {prog : Program} {w : World} {A : Around} {E : Value → Shared → Prop} {s : Shared}
theorem next_list_end_hot {it l x1 : Addr} {i : Nat} {items} {Q : Option Value → Shared → Prop} (hot : HotAt A x1 s.heap) (hit : s.heap.IsListIter it l i) (hl : s.heap.IsList l items) (hx : items[i]? = none)
    (hQ : ∀ h', (∀ b o, b ≠ it → s.heap.get? b = some o → h'.get? b = some o) → Q none { s with heap := h' }) : wpAny (model prog w) A (pyNext (.ref it)) Q E s := by
  obtain ⟨o, ho, hc, hd⟩ := id hit
  obtain ⟨ol, hol, _, nl, hdl⟩ := hl
  obtain ⟨hh, o1, vs1, h1, d1, c1⟩ := hot
  have n1 : x1 ≠ it := fun z => by
    rw [z, ho] at h1
    cases h1
    rw [hd] at d1
    cases d1
    cases c1
  unfold pyNext
  refine wpAny_bind (wpAny_attempt (wpAny_callSpecial?_slot (name := Str.ofString "__next__") hit.typeIs slot_listiter_next
    (wpAny_call_entry slot_listiter_next hit.typeIs entry_listiter_next ?_ (args_listiter_next _))))
  show wpAny _ _ (field (.ref it) 0 >>= _) _ _ s
  refine wpAny_bind (wpAny_field ho hd (x := .ref l) rfl ?_)
  show wpAny _ _ (if (Value.ref l == Value.none) = true then _ else _) _ _ s
  rw [if_neg (show ¬ ((Value.ref l == Value.none) = true) from Bool.false_ne_true)]
  show wpAny _ _ (field (.ref it) 1 >>= _) _ _ s
  refine wpAny_bind (wpAny_field ho hd (x := .int i 0) rfl ?_)
  show wpAny _ _ (seqItems? (.ref l) >>= _) _ _ s
  refine wpAny_bind (wpAny_seqItems hol hdl ?_)
  simp only [Int.toNat_natCast, hx]
  refine wpAny_bind (wpAny_rule (wpAny_bind (wpAny_setField ho hd (by simp) ?_)))
  show wpAny _ _ (newExc (.type "StopIteration") [] >>= _) _ _ _
  refine wpAny_bind ?_
  simp only [newExc, newTuple]
  refine wpAny_bind (wpAny_newObj_type ?_ (by size_fits))
  refine wpAny_bind (m := firstArgMember _ _) (wpAny_of_eq (a := Value.none) (by first | rfl | (simp only [firstArgMember]; rfl)) ?_)
  refine wpAny_newObj_type ?_ (by size_fits)
  have h2 : Heap.SameBut it s.heap (s.heap.update it (Obj.mapFields (·.setIfInBounds 0 Value.none))) := Heap.SameBut.update ..
  have h1' := (h2.2 x1 n1).trans h1
  refine raiseNew_hot ⟨hh, o1, vs1, Heap.get?_push_of_some _ (Heap.get?_push_of_some _ h1'), d1, c1⟩ (Nat.ne_of_lt (Heap.lt_size (Heap.get?_push_of_some _ h1'))) (Heap.get?_push_size _ rfl) rfl (by first | (simp; done) | (simp; omega) | (simp only [Array.size_append]; simp; omega)) ?_
  refine wpAny_bind (wpAny_isInstance (T := "StopIteration") (b := true) ⟨_, Heap.get?_update_self _ (Heap.get?_push_size _ rfl) rfl, rfl⟩ isSubtype_stop ?_)
  refine wpAny_pure (hQ _ fun b o hb e => ?_)
  have e' := (h2.2 b hb).trans e
  rw [Heap.get?_update_other _ _ (Nat.ne_of_gt (Heap.lt_size (Heap.get?_push_of_some _ e')))]
  exact Heap.get?_push_of_some _ (Heap.get?_push_of_some _ e')
end
theorem turn_listH {P : Program} {w : World} {K : PySem.W.Frag} {tg : Expr} (a it : Addr) : L2H.TurnH P w K tg (Itl K a) [it] it (fun i h => h.IsListIter it a i) where
  mem := by simp
  obj := fun i h st b hb => by
    have e : b = it := by simpa using hb
    subst e
    obtain ⟨o, e, c, d⟩ := st
    exact ⟨o, e, fun v z => by rw [d] at z; cases z⟩
  keep := fun i h h' st k => st.at fun o e => k it (by simp) o e
  item := by
    intro X hP hw hK hc i pins s σ H E I hf st hg
    subst hP hw hK
    obtain ⟨xs, x, hq, hx⟩ := hg
    obtain ⟨its, rv, p, hz⟩ := I.list hq
    obtain ⟨u, hu, ru⟩ := rv.get hx
    obtain ⟨f0, f1, f2, f3, f4, f5⟩ := hf it (by simp)
    refine wpAny_pyNext_list_item st p.isList (x := u) (by simpa using hu) fun h' st' sb => ?_
    have I1 : Inv X pins σ H { s with heap := h' } := I.turned (t' := s.toks) (fun b o hb e => (sb.2 b hb).trans e) f0 f1 f3 f4 f5
    obtain ⟨o, e, c, d⟩ := id st'
    exact ⟨u, rfl, go_of (s := { s with heap := h' }) e c d (by decide) ⟨x, H, I1, ru, ⟨rfl, fun ys hy => by rw [I.list_inj hy hq]; exact hx⟩, st', fun b hb => (hf b hb).1⟩⟩
  done := by
    intro X hP hw hK hc i pins s σ H E I hf st hg
    subst hP hw hK
    obtain ⟨xs, hq, hx⟩ := hg
    obtain ⟨its, rv, p, hz⟩ := I.list hq
    obtain ⟨f0, f1, f2, f3, f4, f5⟩ := hf it (by simp)
    have hl := rv.length
    obtain ⟨x1, hot⟩ := hc.at I
    exact next_list_end_hot hot st p.isList (by simp; omega) fun h' eb => ⟨rfl, I.turned (t' := s.toks) (fun b o hb e => eb b o hb e) f0 f1 f3 f4 f5⟩
  self := fun _ _ _ _ _ st h => wpAny_pyIter_listiter st h
section
variable {X : Cx} {W : WX}
theorem pi_listH {tg l : Expr} {tl : TE} (hl : PE X l tl) : L2H.PIH X tg l (iList X.K tl) := by
  refine ⟨fun pins s σ H R I h => ?_⟩
  refine thn (hl.run pins s σ H _ I h) fun v s1 ⟨x, H1, I1, r1, q1⟩ => ?_
  obtain ⟨a, e, ⟨xs, hq⟩, q⟩ := q1
  subst e
  cases r1
  obtain ⟨its, rv, p, hz⟩ := I1.list hq
  refine wpAny_pyIter_list p.isList ?_
  refine ⟨s1.heap.objs.size, [s1.heap.objs.size], _, _, H1, rfl, I1.kept (t' := s1.toks) fun b o e => Heap.get?_push_of_some _ e, turn_listH a _, ⟨_, Heap.get?_push_size _ rfl, rfl, rfl⟩, fun b hb => ?_, q⟩
  have e : b = s1.heap.objs.size := by simpa using hb
  subst e
  exact I1.fpOk (Nat.le_refl _) (I1.hok.fresh (Nat.le_refl _))
/-- a list alone -/
def itemsL : D → Option (List D)
  | .lst xs => some xs
  | _ => none
def mitemsL (f : M D) : M (List D) := mbind f fun x => mopt (itemsL x)
theorem sih_lst {f : M D} {tg l : Expr} (hl : SE X W f l) : SIH X W (mitemsL f) tg l := ⟨fun pins s σ H Rk I ⟨F0, ρ, R, o⟩ => (pi_listH hl).run pins s σ H Rk I (by
  refine seqE R o fun x ρ1 v H1 R1 S1 r1 o1 => ?_
  obtain ⟨ds, e, q⟩ := Out.opt o1
  cases x with
  | lst xs =>
    cases e
    obtain ⟨a, rfl, hx, hi⟩ := iters_lst r1
    exact ⟨a, rfl, hx, q _ H1 R1 S1 hi⟩
  | kls xs => cases e
  | tup xs => cases e
  | non => cases e
  | bl b => cases e
  | int b => cases e
  | str b => cases e
  | dik k b => cases e
  | dit k b => cases e)⟩
end
end Z

/-! Z: [list(y) for y in ..]: a new list that owns its lists -/
namespace Z
open PySem L2
section
variable {K : PySem.W.Frag} {F F0 G : Addr → Prop} {ρ ρ1 : En} {σ : St} {H H1 : Hp}
theorem Rl.accF {p : Addr} {o : HO} (R : Rl K G ρ σ H) (hp : G p) : Rl K G ρ σ (upd H p o) := by
  have m : ∀ a, Fav G ρ σ a → Fav G ρ σ a ∨ H a = none := fun a z => .inl z
  have m2 : ∀ a o', H a = some o' → ¬ Fav G ρ σ a → upd H p o a = some o' := fun a o' e n => by rw [upd_ne fun z => n (.inl (by rw [z]; exact hp))]; exact e
  refine ⟨R.len, fun i x e => ?_, fun i b ds e => ?_, R.inj, fun a h => ?_, R.obj⟩
  · obtain ⟨v, e1, r⟩ := R.dat i x e
    exact ⟨v, e1, r.mono m m2⟩
  · obtain ⟨a, e1, r, n⟩ := R.own i b ds e
    exact ⟨a, e1, r.mono m m2 fun c hc => by rw [upd_ne fun z => n c (by rw [e1]; exact hc) (by rw [z]; exact hp)], n⟩
  · by_cases h' : a = p
    · exact ⟨_, by rw [h']; exact upd_same⟩
    · rw [upd_ne h']; exact R.alc a h
theorem block_endG {vs : List Nat} {ρe : En} {H2 : Hp} (R1 : Rl K F0 ρ1 σ H1) (hG : ∀ a, G a → F0 a ∨ H1 a = none) (hf : vs.all (free1 ρ1) = true) (R2 : Rl K G ρe (wipe σ vs) H2)
    (kp : ∀ a o, H1 a = some o → ¬ Own ρ1 σ a → H2 a = some o) (ow : ∀ a, Own ρe (wipe σ vs) a → Own ρ1 σ a ∨ H1 a = none) (tr : ∀ a, H2 a = none → H1 a = none)
    (io : IoOk vs ρ1 ρe) (hl : ρe.length = ρ1.length) :
    Rl K G (rst ρ1 ρe vs) σ H2 ∧ Stp ρ1 σ H1 (rst ρ1 ρe vs) σ H2 := by
  have fr : ∀ (i : Nat), i ∈ vs → ∀ u : SV, u.owned = true → ρ1[i]? ≠ some (some u) := fun i hi u w e => by
    have := List.all_eq_true.mp hf i hi
    unfold free1 at this
    rw [e] at this
    cases u with
    | d x => cases w
    | ex x => cases w
    | own b ds => cases this
    | dct x => cases this
    | tre b es => cases this
  have at_ : ∀ {j : Nat} {u : SV}, (rst ρ1 ρe vs)[j]? = some (some u) → (j ∈ vs ∧ ρ1[j]? = some (some u)) ∨ (j ∉ vs ∧ ρe[j]? = some (some u)) := fun {j u} e => by
    by_cases hj : j ∈ vs
    · refine .inl ⟨hj, ?_⟩
      rw [rst_get] at e
      split at e
      · cases e3 : ρ1[j]? with
        | none => rw [e3] at e; cases e
        | some w => rw [e3] at e; exact e
      · rename_i hn
        exact absurd ⟨hj, (List.getElem?_eq_some_iff.mp e).1⟩ hn
    · rw [rst_out hj] at e
      exact .inr ⟨hj, e⟩
  have at_o : ∀ {j : Nat} {u : SV}, u.owned = true → (rst ρ1 ρe vs)[j]? = some (some u) → j ∉ vs ∧ ρe[j]? = some (some u) := fun {j u} w e => (at_ e).elim (fun ⟨h, e⟩ => absurd e (fr j h u w)) id
  have oq : ∀ a, Own (rst ρ1 ρe vs) σ a → Own ρe (wipe σ vs) a := fun a ⟨j, u, e, s⟩ => by
    obtain ⟨hj, e⟩ := at_o (SV.has_owned s) e
    exact ⟨j, u, e, by rw [wipe_out hj]; exact s⟩
  have m : ∀ a, Fav G (rst ρ1 ρe vs) σ a → Fav G ρe (wipe σ vs) a ∨ H2 a = none := fun a z => .inl (z.imp id (oq a))
  have m2 : ∀ a o', H2 a = some o' → ¬ Fav G ρe (wipe σ vs) a → H2 a = some o' := fun _ _ e _ => e
  have own2 : ∀ a, Own (rst ρ1 ρe vs) σ a → Own ρ1 σ a ∨ H1 a = none := fun a z => ow a (oq a z)
  have m3 : ∀ a, Fav G (rst ρ1 ρe vs) σ a → Fav F0 ρ1 σ a ∨ H1 a = none := fun a z => by
    rcases z with z | z
    · exact (hG a z).imp .inl id
    · rcases own2 a z with z | z
      · exact .inl (.inr z)
      · exact .inr z
  have m4 : ∀ a o', H1 a = some o' → ¬ Fav F0 ρ1 σ a → H2 a = some o' := fun a o' e n => kp a o' e fun z => n (.inr z)
  refine ⟨⟨by rw [rst_length, hl]; exact R1.len, fun j y e => ?_, fun j u w e => ?_, fun j k u1 u2 a e1 e2 s1 s2 => ?_, R2.alc, fun j q e => ?_⟩, ⟨kp, own2, tr, fun i ds e => ?_, fun i es e => ?_, by rw [rst_length]; exact hl⟩⟩
  · rcases at_ e with ⟨hj, e⟩ | ⟨hj, e⟩
    · obtain ⟨v, f1, r1⟩ := R1.dat j y e
      exact ⟨v, f1, r1.mono m3 m4⟩
    · obtain ⟨v, f1, r1⟩ := R2.dat j y e
      exact ⟨v, by rw [← wipe_out (vs := vs) hj]; exact f1, r1.mono m m2⟩
  · obtain ⟨hj, e⟩ := at_o w e
    obtain ⟨a, f1, r1, n⟩ := R2.own j u w e
    rw [wipe_out hj] at f1 n
    exact ⟨a, f1, r1.mono m m2 fun _ _ => rfl, n⟩
  · obtain ⟨hj, e1⟩ := at_o (SV.has_owned s1) e1
    obtain ⟨hk, e2⟩ := at_o (SV.has_owned s2) e2
    exact R2.inj j k u1 u2 a e1 e2 (by rw [wipe_out hj]; exact s1) (by rw [wipe_out hk]; exact s2)
  · rcases at_ e with ⟨hj, e⟩ | ⟨hj, e⟩
    · exact R1.obj j q e
    · rw [← wipe_out (vs := vs) hj]
      exact R2.obj j q e
  · have hi : i ∉ vs := fun z => fr i z _ rfl e
    obtain ⟨ds', e'⟩ := io.1 i ds hi e
    exact ⟨rfl, ds', by rw [rst_out hi]; exact e'⟩
  · have hi : i ∉ vs := fun z => fr i z _ rfl e
    obtain ⟨es', e', q⟩ := io.2 i es hi e
    exact ⟨rfl, es', by rw [rst_out hi]; exact e', q⟩
theorem innE_app : ∀ (a b : List El), innE (a ++ b) = innE a ++ innE b
  | [], _ => rfl
  | .d _ :: r, b => innE_app r b
  | .p c _ :: r, b => congrArg (c :: ·) (innE_app r b)
theorem shapeE_app : ∀ (a b : List El), shapeE (a ++ b) = shapeE a ++ shapeE b
  | [], _ => rfl
  | .d x :: r, b => congrArg (TL.d x :: ·) (shapeE_app r b)
  | .p _ ds :: r, b => congrArg (TL.l ds :: ·) (shapeE_app r b)
theorem shapeE_length : ∀ (a : List El), (shapeE a).length = a.length
  | [] => rfl
  | .d _ :: r => congrArg (· + 1) (shapeE_length r)
  | .p _ _ :: r => congrArg (· + 1) (shapeE_length r)
theorem Els.append : ∀ {es fs : List El} {vs us : List V}, Els K F H es vs → Els K F H fs us → Els K F H (es ++ fs) (vs ++ us)
  | _, _, _, _, .nil, q => q
  | _, _, _, _, .d h r, q => .d h (r.append q)
  | _, _, _, _, .p e h r, q => .p e h (r.append q)
end
section
variable (X : Cx) (W : WX)
/-- a new list that owns its lists -/
def gX (F0 : Addr → Prop) (ρ : En) (σ : St) (H : Hp) (Q : VK) (ts : List TL) (ρ' : En) : Prop :=
  ∀ p es H', Rl X.K (plusT F0 p es) ρ' σ H' → Stp ρ σ H ρ' σ H' → (∀ c, c = p ∨ c ∈ innE es → H c = none) → shapeE es = ts → Hold X.K (Fav (plusT F0 p es) ρ' σ) H' (.tre false es) p → Q (.ref p) H'
def tX (f : M (List TL)) : TE := fun σ H Q => ∃ F0 ρ, Rl X.K F0 ρ σ H ∧ Out X W F0 ρ σ H (gX X F0 ρ σ H Q) (f ρ)
abbrev SX (f : M (List TL)) (e : Expr) : Prop := PE X e (tX X W f)
end
def cloopX (t : D → M Unit) (p : M Bool) (g : M (List D)) (vs : List Nat) : List D → List (List D) → M (List (List D))
  | [], acc => mpure acc
  | x :: r, acc => fun ρ => match t x ρ with
    | .ok _ ρ1 => match p ρ1 with
      | .ok true ρ2 => match g ρ2 with
        | .ok y ρ3 => if acc.length < sizeLine then cloopX t p g vs r (acc ++ [y]) (clr ρ3 vs) else .bad
        | _ => .bad
      | .ok false ρ2 => cloopX t p g vs r acc (clr ρ2 vs)
      | _ => .bad
    | _ => .bad
def mcompX (vs : List Nat) (items : M (List D)) (t : D → M Unit) (p : M Bool) (g : M (List D)) : M (List TL) := mbind items fun ds ρ =>
  if vs.all (free1 ρ) = true then match cloopX t p g vs ds [] (clr ρ vs) with
    | .ok acc ρ' => .ok (acc.map TL.l) (rst ρ ρ' vs)
    | _ => .bad
  else .bad
section
variable {X : Cx} {W : WX}
def NI (X : Cx) (t : D → M Unit) (p : M Bool) (g : M (List D)) (vs : List Nat) (F0 : Addr → Prop) (ρ1 : En) (σ : St) (H1 : Hp) (D : Addr) (rest : List Z.D) (res : List (List Z.D)) (ρe : En) (H2 : Hp) : Prop :=
  ∃ (ρk : En) (acc : List (List Z.D)) (es : List El) (vacc : List V), Rl X.K (plusT F0 D es) ρk (wipe σ vs) H2 ∧ H2 D = some (.lst vacc) ∧ Els X.K (Fav (plusT F0 D es) ρk (wipe σ vs)) H2 es vacc ∧ (D :: innE es).Nodup ∧ (∀ c ∈ innE es, H1 c = none) ∧ shapeE es = acc.map TL.l ∧
    (∀ a o, H1 a = some o → ¬ Own ρ1 σ a → H2 a = some o) ∧ (∀ a, Own ρk (wipe σ vs) a → Own ρ1 σ a ∨ H1 a = none) ∧ (∀ a, H2 a = none → H1 a = none) ∧ IoOk vs ρ1 ρk ∧ ρk.length = ρ1.length ∧ cloopX t p g vs rest acc ρk = .ok res ρe
theorem compX_of {f : M (List D)} {t : D → M Unit} {p : M Bool} {g : M (List D)} {vs : List Nat} : ∀ σ H Q, tX X W (mcompX vs f t p g) σ H Q → tLc (tI X W f) (tG X vs t) (tT X W0 p) (tF X W0 g) vs σ H Q := fun σ H Q ⟨F0, ρ, R, o⟩ => by
  refine ⟨F0, ρ, R, (Out.bind o).imp fun ds ρ1 o1 J H1 R1 S1 it D hD => ?_⟩
  split at o1
  · rename_i hf
    split at o1
    · rename_i res ρe er
      have RD : Rl X.K (plus F0 D) ρ1 σ (upd H1 D (.lst [])) := R1.more (Same.new hD _) hD ⟨_, upd_same⟩
      obtain ⟨Rb, ownb⟩ := RD.clr vs
      have RT : Rl X.K (plusT F0 D []) (clr ρ1 vs) (wipe σ vs) (upd H1 D (.lst [])) := Rb.less fun a z => z.imp id fun z => z.elim id fun z => by cases z
      refine ⟨fun i m H2 => m = ds.length - i ∧ i ≤ ds.length ∧ NI X t p g vs F0 ρ1 σ H1 D (ds.drop i) res ρe H2, ⟨_, rfl, Nat.zero_le _, clr ρ1 vs, [], [], [], RT, upd_same, .nil, by simp [innE], (fun c hc => by cases hc), rfl, fun a o e n => ?_, fun a z => .inl (ownb a z), fun a z => ?_, IoOk.refl _ _, clr_length _ _, er⟩, ?_⟩
      · exact Same.new hD _ a o e
      · exact Same.free (Same.new hD _) z
      rintro i m H2 ⟨rfl, hi, ρk, acc, es, vacc, Rk, hDk, rk, nd, fre, shp, kp, ow, tr, io, ln, run⟩
      have keep : ∀ a o, H1 a = some o → ¬ Fav F0 ρ1 σ a → H2 a = some o := fun a o e n => kp a o e fun z => n (.inr z)
      obtain ⟨st, gos⟩ := it H2 keep
      have hGf : ∀ a, plusT F0 D es a → F0 a ∨ H1 a = none := fun a z => by
        rcases z with z | z | z
        · exact .inl z
        · rw [z]; exact .inr hD
        · exact .inr (fre a z)
      by_cases hlt : i < ds.length
      · have e : ds[i]? = some ds[i] := List.getElem?_eq_getElem hlt
        obtain ⟨go, ys⟩ := gos i _ e
        rw [List.drop_eq_getElem_cons hlt] at run
        refine .inr ⟨go, fun H' => NI X t p g vs F0 ρ1 σ H1 D (ds.drop (i + 1)) res ρe H', fun H' h => ⟨_, by omega, rfl, hlt, h⟩, fun x H3 hy => ?_⟩
        obtain ⟨k3, rep⟩ := ys x H3 hy
        have fav : ∀ a, Fav (plusT F0 D es) ρk (wipe σ vs) a → Fav F0 ρ1 σ a ∨ H1 a = none := fun a z => by
          rcases z with z | z
          · exact (hGf a z).imp .inl id
          · exact (ow a z).imp .inr id
        have r := rep (Fav (plusT F0 D es) ρk (wipe σ vs)) fav (fun a z => Rk.fav_alc a z)
        have R3 := Rk.same k3
        refine ⟨plusT F0 D es, ρk, _, R3, r, ?_⟩
        unfold cloopX at run
        cases e4 : t ds[i] ρk with
        | bad => rw [e4] at run; cases run
        | exc x ρ' => rw [e4] at run; cases run
        | ok u ρ4 =>
          rw [e4] at run
          simp only at run
          refine fun σ4 H4 R4 S4 w4 k4 => ⟨by rw [w4]; exact wipe_wipe, ?_⟩
          cases e5 : p ρ4 with
          | bad => rw [e5] at run; cases run
          | exc x ρ' => rw [e5] at run; cases run
          | ok b ρ5 =>
            rw [e5] at run
            refine ⟨plusT F0 D es, ρ4, R4, ?_⟩
            rw [e5]
            intro H5 R5 S5
            have turn : ∀ {G : Addr → Prop} {ρ6 : En} {H6 : Hp}, Rl X.K G ρ6 σ4 H6 → Stp ρ4 σ4 H4 ρ6 σ4 H6 →
                Rl X.K G (clr ρ6 vs) (wipe σ vs) H6 ∧ Stp ρk (wipe σ vs) H2 ρ6 σ4 H6 ∧ (∀ a, Own (clr ρ6 vs) (wipe σ vs) a → Own ρ6 σ4 a) ∧
                (∀ a o, H1 a = some o → ¬ Own ρ1 σ a → H6 a = some o) ∧ (∀ a, Own (clr ρ6 vs) (wipe σ vs) a → Own ρ1 σ a ∨ H1 a = none) ∧ (∀ a, H6 a = none → H1 a = none) ∧
                IoOk vs ρ1 (clr ρ6 vs) ∧ (clr ρ6 vs).length = ρ1.length := fun {G ρ6 H6} R6 S6 => by
              have ST : Stp ρk (wipe σ vs) H2 ρ6 σ4 H6 := (Stp.same k3).trans (S4.trans S6)
              obtain ⟨R7, o7⟩ := R6.clr vs
              rw [w4, wipe_wipe] at R7 o7
              refine ⟨R7, ST, o7, fun a o e n => ?_, fun a z => ?_, fun a z => tr a (ST.trk a z), (io.stp ST).clr, by rw [clr_length, ST.len]; exact ln⟩
              · exact ST.keep a o (kp a o e n) fun z => (ow a z).elim n fun q => by rw [e] at q; cases q
              · rcases ST.own a (o7 a z) with z | z
                · exact ow a z
                · exact .inr (tr a z)
            have notG : ∀ c, plusT F0 D es c → ¬ Own ρk (wipe σ vs) c := fun c hc ⟨j, u, e, s⟩ => by
              obtain ⟨_, _, _, n⟩ := Rk.own j u (SV.has_owned s) e
              exact n c s hc
            have notD := notG D (.inr (.inl rfl))
            have notI : ∀ c ∈ innE es, ¬ Own ρk (wipe σ vs) c := fun c hc => notG c (.inr (.inr hc))
            have innK : ∀ {ρ6 : En} {H6 : Hp}, Stp ρk (wipe σ vs) H2 ρ6 σ4 H6 → ∀ c ∈ innE es, H6 c = H2 c := fun {ρ6 H6} ST c hc => by
              obtain ⟨o, ho⟩ := rk.alc hc
              rw [ho]; exact ST.keep c o ho (notI c hc)
            cases b with
            | false =>
              rw [if_neg (by decide)]
              obtain ⟨R7, ST, o7, a1, a2, a3, a4, a5⟩ := turn R5 S5
              refine ⟨clr ρ5 vs, acc, es, vacc, R7, ST.keep _ _ hDk notD, rk.mono (fun a z => ?_) (fun a o e n => ST.keep a o e fun z => n (.inr z)) (innK ST), nd, fre, shp, a1, a2, a3, a4, a5, run⟩
              rcases z with z | z
              · exact .inl (.inl z)
              · exact (ST.own a (o7 a z)).imp .inr id
            | true =>
              rw [if_pos rfl]
              simp only at run
              cases e6 : g ρ5 with
              | bad => rw [e6] at run; cases run
              | exc x ρ' => rw [e6] at run; cases run
              | ok y ρ6 =>
                rw [e6] at run
                simp only at run
                refine ⟨plusT F0 D es, ρ5, R5, ?_⟩
                rw [e6]
                intro q ws H6 R6 S6 hq hqv ry
                obtain ⟨R7, ST, o7, a1, a2, a3, a4, a5⟩ := turn R6 (S5.trans S6)
                have hD6 := ST.keep _ _ hDk notD
                have ST5 : Stp ρk (wipe σ vs) H2 ρ5 σ4 H5 := (Stp.same k3).trans (S4.trans S5)
                have qD : q ≠ D := fun z => by
                  have := ST5.keep _ _ hDk notD
                  rw [← z, hq] at this; cases this
                have qI : q ∉ innE es := fun z => by
                  obtain ⟨o, ho⟩ := rk.alc z
                  have := ST5.keep _ _ ho (notI q z)
                  rw [hq] at this; cases this
                have q2 : H2 q = none := ST5.trk q hq
                have q1 : H1 q = none := tr q q2
                by_cases hz : acc.length < sizeLine
                · rw [if_pos hz] at run
                  have eI : innE (es ++ [.p q y]) = innE es ++ [q] := innE_app _ _
                  have inT : ∀ a, plusT F0 D (es ++ [.p q y]) a → plus (plusT F0 D es) q a := fun a z => by
                    rcases z with z | z | z
                    · exact .inl (.inl z)
                    · exact .inl (.inr (.inl z))
                    · rw [eI, List.mem_append, List.mem_singleton] at z
                      exact z.elim (fun z => .inl (.inr (.inr z))) .inr
                  have F8 : ∀ a, Fav (plusT F0 D (es ++ [.p q y])) (clr ρ6 vs) (wipe σ vs) a → plus (plusT F0 D es) q a ∨ Own ρ6 σ4 a := fun a z => z.imp (inT a) (o7 a)
                  have ne : ∀ {a : Addr} {G : Addr → Prop}, ¬ Fav G ρk (wipe σ vs) a → G D → a ≠ D := fun n g z => n (.inl (by rw [z]; exact g))
                  refine ⟨vacc, hD6, ?_, clr ρ6 vs, acc ++ [y], es ++ [.p q y], vacc ++ [.ref q], (R7.less inT).accF (.inr (.inl rfl)), upd_same, Els.append (rk.mono (fun a z => ?_) (fun a o e n => ?_) (fun c hc => ?_)) (.p (by rw [upd_ne qD]; exact hqv) (ry.mono (fun a z => .inl ((F8 a z).imp id id)) fun a o e n => ?_) .nil), ?_, fun c hc => ?_, ?_, fun a o e n => ?_, a2, fun a z => ?_, a4, a5, run⟩
                  · rw [← rk.length, ← shapeE_length, shp, List.length_map]; exact hz
                  · rcases F8 a z with (z | z) | z
                    · exact .inl (.inl z)
                    · rw [z]; exact .inr q2
                    · exact (ST.own a z).imp .inr id
                  · rw [upd_ne (ne n (.inr (.inl rfl)))]
                    exact ST.keep a o e fun z => n (.inr z)
                  · rw [upd_ne fun z => (List.nodup_cons.mp nd).1 (by rw [← z]; exact hc)]
                    exact innK ST c hc
                  · rw [upd_ne fun z => n (.inl (.inl (by rw [z]; exact .inr (.inl rfl))))]; exact e
                  · rw [eI, ← List.cons_append]
                    refine List.nodup_append.mpr ⟨nd, by simp, fun a ha b hb => ?_⟩
                    rw [List.mem_singleton] at hb
                    subst hb
                    intro z
                    subst z
                    rcases List.mem_cons.mp ha with z | z
                    · exact qD z
                    · exact qI z
                  · rw [eI, List.mem_append, List.mem_singleton] at hc
                    rcases hc with hc | hc
                    · exact fre c hc
                    · rw [hc]; exact q1
                  · rw [shapeE_app, shp, List.map_append]; rfl
                  · have hne : a ≠ D := fun z => by rw [z, hD] at e; cases e
                    rw [upd_ne hne]; exact a1 a o e n
                  · by_cases hne : a = D
                    · rw [hne]; exact hD
                    · rw [upd_ne hne] at z; exact a3 a z
                · rw [if_neg hz] at run; cases run
      · have e : i = ds.length := by omega
        subst e
        rw [List.drop_length] at run
        cases run
        obtain ⟨R8, S8⟩ := block_endG R1 hGf hf Rk kp ow tr io ln
        have f8 : ∀ a, Fav (plusT F0 D es) (rst ρ1 ρe vs) σ a → Fav (plusT F0 D es) ρe (wipe σ vs) a ∨ H2 a = none := fun a z => .inl (z.imp id (rst_own hf))
        exact .inl ⟨st, o1 D es H2 R8 (S1.trans S8) (fun c hc => S1.trk c (hc.elim (fun z => by rw [z]; exact hD) (fre c))) shp (.tre hDk (rk.mono f8 (fun _ _ e _ => e) fun _ _ => rfl) nd)⟩
    · exact o1.elim
  · exact o1.elim
end
end Z

/-! Z: x = [list(y) ..] and what is done with x's lists -/
namespace Z
open PySem L2
section
variable {X : Cx} {W : WX}
def ioOnly (ρ : En) : En := ρ.map fun u => match u with
  | some w => if w.isIo = true then some w else none
  | none => none
theorem ioOnly_at {ρ : En} {i : Nat} {u : SV} (e : (ioOnly ρ)[i]? = some (some u)) : ρ[i]? = some (some u) ∧ u.isIo = true := by
  unfold ioOnly at e
  rw [List.getElem?_map] at e
  cases h : ρ[i]? with
  | none => rw [h] at e; cases e
  | some w =>
    rw [h] at e
    cases w with
    | none => cases e
    | some w =>
      simp only [Option.map_some] at e
      split at e
      · rename_i hw
        cases e
        exact ⟨rfl, hw⟩
      · cases e
theorem ioOnly_of {ρ : En} {i : Nat} {u : SV} (e : ρ[i]? = some (some u)) (h : u.isIo = true) : (ioOnly ρ)[i]? = some (some u) := by
  unfold ioOnly
  rw [List.getElem?_map, e]
  simp only [Option.map_some, h, if_true]
theorem ioOnly_length (ρ : En) : (ioOnly ρ).length = ρ.length := List.length_map ..
open Classical in
/-- the rest, wherever the new lists lie: it comes to one answer -/
noncomputable def allX (i : Nat) (ts : List TL) (rest : M Flow) (ρ : En) : Rs Flow :=
  if h : (i < ρ.length ∧ noOwn ρ i = true) ∧ ∃ q : D × En, ∀ es, shapeE es = ts → (innE es).Nodup → ∃ ρ', rest (ρ.set i (some (.tre false es))) = .ok (.rt q.1) ρ' ∧ ioOnly ρ' = q.2 then .ok (.rt (choose h.2).1) (choose h.2).2 else .bad
noncomputable def mnewX (i : Nat) (f : M (List TL)) (rest : M Flow) : M Flow := mbind f fun ts => allX i ts rest
theorem newX_of {i : Nat} {f : M (List TL)} {rest : M Flow} : ∀ D σ H, tS X W (mnewX i f rest) D σ H → tX X W f σ H fun x H1 => tS X W rest D (σ.set i (some x)) H1 := fun D σ H ⟨F0, ρ, R, o⟩ => by
  refine ⟨F0, ρ, R, (OutS.bind o).imp fun ts ρ1 o1 => ?_⟩
  intro p es H1 R1 S1 fr shp hold
  unfold allX at o1
  by_cases hh : (i < ρ1.length ∧ noOwn ρ1 i = true) ∧ ∃ q : Z.D × En, ∀ es, shapeE es = ts → (innE es).Nodup → ∃ ρ', rest (ρ1.set i (some (.tre false es))) = .ok (.rt q.1) ρ' ∧ ioOnly ρ' = q.2
  case neg => simp only [dif_neg hh] at o1; exact o1.elim
  simp only [dif_pos hh] at o1
  have hx := Classical.choose_spec hh.2
  obtain ⟨hi, hn⟩ := hh.1
  generalize Classical.choose hh.2 = q at hx o1
  obtain ⟨x, ρo⟩ := q
  have nd : (innE es).Nodup := by
    cases hold with
    | tre _ _ nd => exact (List.nodup_cons.mp nd).2
  obtain ⟨ρ', er, ei⟩ := hx es shp nd
  simp only at ei er o1
  subst ei
  have nF0 : ∀ c, c = p ∨ c ∈ innE es → ¬ F0 c := fun c hc z => by
    obtain ⟨o, e⟩ := R.alc c z
    rw [fr c hc] at e; cases e
  have hasP : ∀ c, (SV.tre false es).has (some (some (.ref p))) c → c = p ∨ c ∈ innE es := fun c hc => hc.imp (fun ⟨_, e⟩ => by cases e; rfl) id
  obtain ⟨R3, less⟩ := R1.setP (P := fun c => c = p ∨ c ∈ innE es) (w := some (.tre false es)) (v := some (.ref p)) (H' := H1) nF0 hi (fun _ _ e _ _ => e) (fun u c e s => by cases e; exact .inr (.inl (hasP c s))) fun k => ⟨p, rfl, hold.mono (fun a z => by
      refine .inl ?_
      rcases z with z | ⟨j, u, e, s⟩
      · exact .inl (.inl z)
      · by_cases hj : j = i
        · subst hj
          rw [List.getElem?_set_self hi] at e
          rw [List.getElem?_set_self (by rw [← R1.len]; exact hi)] at s
          cases e
          exact .inl (.inr (hasP a s))
        · rw [List.getElem?_set_ne (Ne.symm hj)] at e
          rw [List.getElem?_set_ne (Ne.symm hj)] at s
          exact .inr ⟨j, u, e, s⟩) (fun _ _ e _ => e) fun _ _ => rfl⟩
  refine ⟨F0, _, R3, ?_⟩
  rw [er]
  intro v σ' H'' R' S' rx
  have own3 : ∀ a, Own (ρ1.set i (some (.tre false es))) (σ.set i (some (.ref p))) a → Own ρ σ a ∨ H a = none := fun a z => by
    rcases less a z with z | ⟨u, e, s⟩
    · exact S1.own a z
    · cases e; exact .inr (fr a (hasP a s))
  obtain ⟨R4, l4⟩ := R'.sub (ρ' := ioOnly ρ') (σ' := σ') (by rw [ioOnly_length]; exact R'.len) fun j u e => ⟨(ioOnly_at e).1, rfl⟩
  have S4 : Stp ρ σ H (ioOnly ρ') σ' H'' := ⟨fun a o e n => S'.keep a o (S1.keep a o e n) fun z => (own3 a z).elim n fun q => (by rw [e] at q; cases q), fun a z => by
      rcases S'.own a (l4 a z) with z | z
      · exact own3 a z
      · exact .inr (S1.trk a z), fun a z => S1.trk a (S'.trk a z), fun j ds e => by
      obtain ⟨_, ds1, f1⟩ := S1.io j ds e
      have ne : i ≠ j := fun z => by subst z; exact noOwn_ne hn rfl f1
      obtain ⟨e2, ds2, f2⟩ := S'.io j ds1 (by rw [List.getElem?_set_ne ne]; exact f1)
      exact ⟨e2.trans (List.getElem?_set_ne ne), ds2, ioOnly_of f2 rfl⟩, fun j ds e => by
      obtain ⟨_, ds1, f1, g1⟩ := S1.ioT j ds e
      have ne : i ≠ j := fun z => by subst z; exact noOwn_ne hn rfl f1
      obtain ⟨e2, ds2, f2, g2⟩ := S'.ioT j ds1 (by rw [List.getElem?_set_ne ne]; exact f1)
      exact ⟨e2.trans (List.getElem?_set_ne ne), ds2, ioOnly_of f2 rfl, g2.trans g1⟩, by rw [ioOnly_length, S'.len, List.length_set, S1.len]⟩
  exact o1 v σ' H'' R4 S4 (rx.mono (fun a z => .inl (z.imp id (l4 a))) fun _ _ e _ => e)
theorem sss_newX {i : Nat} {f : M (List TL)} {rest : M Flow} {sts : List Stmt} {e : Expr} {y : Str} {pos' pos2 : Pos} (he : SX X W f e) (hN : X.N.Nodup) (hi : X.N[i]? = some y) (hy : Loc X.env.scope y) (hrest : SSs X W rest sts)
    (hs : swapsWith e (some (.Name y pos')) pos2.line X.env = pure false := by rfl) (hf : X.fn y = true ∨ X.env.scope.names.lookup y = some .local := by first | exact .inl rfl | exact .inr rfl | assumption) :
    SSs X W (mnewX i f rest) (.Assign [.Name y pos'] e pos2 :: sts) := (pss_cons (ps_set hN hi hy he hs hf) hrest).imp newX_of
theorem sx_comp {elt tg iter : Expr} {ifs : List Expr} {scope : Scope} {own : List (Str × Nat)} {pos : Pos} {f : M (List D)} {t : D → M Unit} {p : M Bool} {g : M (List D)} (hc : X.calm = true) (hN : X.N.Nodup) (hi : SI X W f tg iter) (ok : BlkOk X.N X.env.scope scope own)
    (hg : ∀ (s : Shared) (H : Hp) (C : Addr) (cl : List (Str × Addr)) (fp : List Addr), SG (X.blk s H scope (compEnvC scope cl C X.env) fp) (own.map (·.2)) t tg) (ht : ∀ (s : Shared) (H : Hp) (C : Addr) (cl : List (Str × Addr)) (fp : List Addr), PTs (X.blk s H scope (compEnvC scope cl C X.env) fp) ifs (tT (X.blk s H scope (compEnvC scope cl C X.env) fp) W0 p))
    (he : ∀ (s : Shared) (H : Hp) (C : Addr) (cl : List (Str × Addr)) (fp : List Addr), SF (X.blk s H scope (compEnvC scope cl C X.env) fp) W0 g elt) (hs : ∀ x, foldedSetIterable iter X.env x = pure x := by intro _; rfl) :
    SX X W (mcompX (own.map (·.2)) f t p g) (.ListComp elt [⟨tg, iter, ifs, 0⟩] scope pos) :=
  (pe_lc (g := tG X (jsOf own) t) (tt := tT X W0 p) (te := tF X W0 g) hc hN hi ok hg ht he hs).imp compX_of
/-- x = [list(y) ..] on one line -/
theorem sss_newXc {i : Nat} {y : Str} {py : Pos} {elt tg iter : Expr} {ifs : List Expr} {scope : Scope} {own : List (Str × Nat)} {pos spos : Pos} {f : M (List D)} {t : D → M Unit} {p : M Bool} {g : M (List D)} {rest : M Flow} {sts : List Stmt} (hc : X.calm = true) (hN : X.N.Nodup) (hy : X.N[i]? = some y) (hyl : X.env.scope.names.lookup y = some .local)
    (hsw : swapsWith (.ListComp elt [⟨tg, iter, ifs, 0⟩] scope pos) (some (.Name y py)) spos.line X.env = pure true) (hi : SI X W f tg iter) (ok : BlkOk X.N X.env.scope scope own)
    (hg : ∀ (s : Shared) (H : Hp) (C : Addr) (cl : List (Str × Addr)) (fp : List Addr), SG (X.blk s H scope (compEnvC scope cl C X.env) fp) (own.map (·.2)) t tg) (ht : ∀ (s : Shared) (H : Hp) (C : Addr) (cl : List (Str × Addr)) (fp : List Addr), PTs (X.blk s H scope (compEnvC scope cl C X.env) fp) ifs (tT (X.blk s H scope (compEnvC scope cl C X.env) fp) W0 p))
    (he : ∀ (s : Shared) (H : Hp) (C : Addr) (cl : List (Str × Addr)) (fp : List Addr), SF (X.blk s H scope (compEnvC scope cl C X.env) fp) W0 g elt) (hrest : SSs X W rest sts) (hs : ∀ x, foldedSetIterable iter X.env x = pure x := by intro _; rfl) :
    SSs X W (mnewX i (mcompX (own.map (·.2)) f t p g) rest) (.Assign [.Name y py] (.ListComp elt [⟨tg, iter, ifs, 0⟩] scope pos) spos :: sts) :=
  (pss_cons (ps_setLc (g := tG X (jsOf own) t) (tt := tT X W0 p) (te := tF X W0 g) hc hN hy hyl hsw hi ok hg ht he hs) hrest).imp fun D σ H h => compX_of σ H _ (newX_of D σ H h)
end
/-! ### its lists -/
def findP : List El → Addr → Option (Nat × List D)
  | [], _ => none
  | .d _ :: r, c => (findP r c).map fun q => (q.1 + 1, q.2)
  | .p a ds :: r, c => if a = c then some (0, ds) else (findP r c).map fun q => (q.1 + 1, q.2)
theorem findP_get : ∀ {es : List El} {c : Addr} {k : Nat} {ds : List D}, findP es c = some (k, ds) → es[k]? = some (.p c ds)
  | [], _, _, _, e => by cases e
  | .d x :: r, c, k, ds, e => by
    unfold findP at e
    cases h : findP r c with
    | none => rw [h] at e; cases e
    | some q => rw [h] at e; cases e; exact findP_get (es := r) h
  | .p a es :: r, c, k, ds, e => by
    unfold findP at e
    split at e
    · rename_i ha; cases e; rw [ha]; rfl
    · cases h : findP r c with
      | none => rw [h] at e; cases e
      | some q => rw [h] at e; cases e; exact findP_get (es := r) h
theorem mem_innE : ∀ {es : List El} {k : Nat} {c : Addr} {ds : List D}, es[k]? = some (.p c ds) → c ∈ innE es
  | [], _, _, _, e => by simp at e
  | .d x :: r, 0, c, ds, e => by simp at e
  | .p a x :: r, 0, c, ds, e => by simp at e; rw [e.1]; exact List.mem_cons_self
  | .d x :: r, k + 1, c, ds, e => mem_innE (es := r) (k := k) (by simpa using e)
  | .p a x :: r, k + 1, c, ds, e => List.mem_cons_of_mem _ (mem_innE (es := r) (k := k) (by simpa using e))
theorem findP_of : ∀ {es : List El} {c : Addr} {k : Nat} {ds : List D}, (innE es).Nodup → es[k]? = some (.p c ds) → findP es c = some (k, ds)
  | [], _, _, _, _, e => by simp at e
  | .d x :: r, c, 0, ds, _, e => by simp at e
  | .d x :: r, c, k + 1, ds, nd, e => by
    unfold findP
    rw [findP_of (es := r) (k := k) nd (by simpa using e)]; rfl
  | .p a x :: r, c, 0, ds, nd, e => by
    simp at e
    obtain ⟨rfl, rfl⟩ := e
    unfold findP
    rw [if_pos rfl]
  | .p a x :: r, c, k + 1, ds, nd, e => by
    have nd : (a :: innE r).Nodup := nd
    rw [List.nodup_cons] at nd
    have e : r[k]? = some (.p c ds) := by simpa using e
    unfold findP
    rw [if_neg (fun z => nd.1 (by rw [z]; exact mem_innE e)), findP_of nd.2 e]; rfl
/-- the address of list z -/
def atP (es : List El) : D → Option Addr
  | .int k => if 0 ≤ k then (match es[k.toNat]? with
    | some (.p c _) => some c
    | _ => none) else none
  | _ => none
theorem atP_get {es : List El} {z : D} {c : Addr} (h : atP es z = some c) : ∃ (n : Nat) (ds : List D), z = .int n ∧ es[n]? = some (.p c ds) := by
  unfold atP at h
  split at h
  · rename_i k
    split at h
    · rename_i hk
      split at h
      · rename_i c' ds e
        cases h
        exact ⟨k.toNat, ds, by rw [Int.toNat_of_nonneg hk], e⟩
      · cases h
    · cases h
  · cases h
section
variable {X : Cx} {W : WX}
/-- y = x[f], x a slot's tree -/
def mtal (i j : Nat) (f : M D) : M Flow := fun ρ => match ρ[i]? with
  | some (some (.tre _ _)) => mbind f (fun z ρ1 => match ρ1[i]? with
    | some (some (.tre _ es)) => (match atP es z with
      | some c => if noOwn ρ1 j = true then .ok .nx (ρ1.set j (some (.ex c))) else .bad
      | none => .bad)
    | _ => .bad) ρ
  | _ => .bad
theorem ss_tal {i j : Nat} {f : M D} {a b : Expr} {y : Str} {p' pos pos2 : Pos} (ha : PE X a (tVar i)) (hb : SE X W f b) (hp : PlainIx b) (hN : X.N.Nodup) (hj : X.N[j]? = some y) (hy : Loc X.env.scope y)
    (hs : swapsWith (.Subscript a b pos) (some (.Name y p')) pos2.line X.env = pure false := by rfl) (hf : X.fn y = true ∨ X.env.scope.names.lookup y = some .local := by first | exact .inl rfl | exact .inr rfl | assumption) :
    SS X W (mtal i j f) (.Assign [.Name y p'] (.Subscript a b pos) pos2) := (ps_set hN hj hy (pe_ix ix_seq ha hb hp) hs hf).imp fun D σ H ⟨F0, ρ, R, o⟩ => by
  unfold mtal at o
  split at o
  · rename_i b0 es0 e0
    obtain ⟨a0, vs0, s0, _⟩ := R.tre e0
    have o : OutS X W F0 ρ σ H D (mbind f _ ρ) := o
    refine ⟨_, s0, sqE R o fun z ρ1 v H1 R1 S1 r1 o1 => ?_⟩
    split at o1
    · rename_i b1 es e
      split at o1
      · rename_i c ec
        split at o1
        · rename_i hn
          obtain ⟨n, ds, rfl, ek⟩ := atP_get ec
          obtain ⟨a1, vs, s1, h1, r, nd⟩ := R1.tre e
          rw [s0] at s1; cases s1
          refine .inl ⟨a0, vs, _, .ref c, rfl, r1.v_int, SqL.of h1, by rw [atI_nat]; exact (r.get_p ek).1, ?_⟩
          obtain ⟨R2, less⟩ := R1.setE (a := c) (noOwn_lt hn)
          exact o1 _ _ R2 (Stp.slot (fun u w => noOwn_ne hn w) less)
        · exact o1.elim
      · exact o1.elim
    · exact o1.elim
  · exact o.elim
/-- list c of slot i's tree: item z anew -/
def putC (i : Nat) (c : Addr) (z x : D) : M Flow := fun ρ => match ρ[i]? with
  | some (some (.tre b es)) => (match findP es c with
    | some (k, ds) => (match setIxD ds z x with
      | some ds' => .ok .nx (ρ.set i (some (.tre b (es.set k (.p c ds')))))
      | none => .bad)
    | none => .bad)
  | _ => .bad
/-- y[f] = g, y a list of slot i's tree -/
def mtput (j i : Nat) (f g : M D) : M Flow := mbind g fun x ρ => match ρ[j]? with
  | some (some (.ex _)) => mbind f (fun z ρ1 => match ρ1[j]? with
    | some (some (.ex c)) => putC i c z x ρ1
    | _ => .bad) ρ
  | _ => .bad
theorem ixN_back {n : Nat} {k : Int} {j : Nat} (h : ixN n k = some j) : ixN n k = some j := h
/-- what a store in list c comes to -/
theorem putC_end {F0 : Addr → Prop} {ρ : En} {σ : St} {H : Hp} {Ds : Ends} {i : Nat} {c : Addr} {z x : D} {u v : V} (R : Rl X.K F0 ρ σ H) (rz : Rep X.K (Fav F0 ρ σ) H z u) (rx : Rep X.K (Fav F0 ρ σ) H x v) (o : OutS X W F0 ρ σ H Ds (putC i c z x ρ)) :
    ∃ ws k j, u = .int k ∧ H c = some (.lst ws) ∧ ixN ws.length k = some j ∧ Ds.nx σ (upd H c (.lst (ws.set j v))) := by
  unfold putC at o
  split at o
  · rename_i b es e
    split at o
    · rename_i n ds ef
      split at o
      · rename_i ds' es'
        obtain ⟨a, vs, ws, e1, e2, e3, e4, r, rE, nd, hc⟩ := tre_at R e (findP_get ef)
        unfold setIxD at es'
        split at es'
        · rename_i k
          cases ej : ixN ds.length k with
          | none => rw [ej] at es'; cases es'
          | some j =>
            rw [ej] at es'; cases es'
            rw [r.length] at ej
            have nd' := nd
            rw [List.nodup_cons] at nd'
            refine ⟨ws, k, j, rz.v_int, e4, ej, ?_⟩
            obtain ⟨R2, S2⟩ := R.treSet (us := ws.set j v) (es' := es.set n (.p c (ds.set j x))) e e1 (.inr hc) (innE_set_p (findP_get ef)) fun m => .tre (by rw [upd_ne fun q => nd'.1 (by rw [q]; exact hc)]; exact e2) (Els.set_p m upd_same (Reps.all m (Reps.set rx j r)) (fun q hq o ho => by rw [upd_ne hq]; exact ho) rE (findP_get ef) nd'.2) (by rw [innE_set_p (findP_get ef)]; exact nd)
            exact o _ _ R2 S2
        · cases es'
      · exact o.elim
    · exact o.elim
  · exact o.elim
theorem ss_tput {j i : Nat} {f g : M D} {o ix e : Expr} {tpos pos : Pos} (ho : PE X o (tVar j)) (hg : SE X W f ix) (hf : SE X W g e) (hs : swapsWithSole [.Subscript o ix tpos] e pos.line X.env = pure false := by rfl) (hw : swappedStores [.Subscript o ix tpos] e X.env = pure none := by rfl)
    (h1 : (assignEach [.Subscript o ix tpos] X.env).map (·.2) = [assign (.Subscript o ix tpos) X.env] := by rfl)
    (ha : ∀ v, assign (.Subscript o ix tpos) X.env v = (do
      let ov ← holding [v] (eval o X.env)
      let iv ← holding [v, ov] (eval ix X.env)
      standAt tpos
      holding [v, ov, iv] (setItem ov iv v)
      release [v, ov, iv] []) := by intro _; rfl) : SS X W (mtput j i f g) (.Assign [.Subscript o ix tpos] e pos) :=
  (ps_asg hf (pg_sub ho hg set_list ha) hs hw h1).imp fun D σ H ⟨F0, ρ, R, o⟩ => by
    refine sqE R o fun x ρ1 v H1 R1 S1 r1 o1 => ?_
    split at o1
    · rename_i c0 e0
      have o1 : OutS X W F0 ρ1 σ H1 D (mbind f _ ρ1) := o1
      have s0 := R1.obj _ _ e0
      refine ⟨_, s0, sqE R1 o1 fun z ρ2 u H2 R2 S2 r2 o2 => ?_⟩
      split at o2
      · rename_i c e1
        have s1 := R2.obj _ _ e1
        rw [s0] at s1; cases s1
        obtain ⟨ws, k, jj, eu, hc, ej, q⟩ := putC_end R2 r2 (S2.rep r1) o2
        exact ⟨c0, ws, k, jj, rfl, eu, hc, ej, q⟩
      · exact o2.elim
    · exact o1.elim
/-- x[f][g] = h -/
def mtput2 (i : Nat) (f g h : M D) : M Flow := mbind h fun x ρ => match ρ[i]? with
  | some (some (.tre _ _)) => mbind f (fun z ρ1 => match ρ1[i]? with
    | some (some (.tre _ es)) => (match atP es z with
      | some c => mbind g (fun z2 => putC i c z2 x) ρ1
      | none => .bad)
    | _ => .bad) ρ
  | _ => .bad
theorem ss_tput2 {i : Nat} {f g h : M D} {o ix ix2 e : Expr} {tpos tpos2 pos : Pos} (ho : PE X o (tVar i)) (hg : SE X W f ix) (hp : PlainIx ix) (hg2 : SE X W g ix2) (hf : SE X W h e) (hs : swapsWithSole [.Subscript (.Subscript o ix tpos2) ix2 tpos] e pos.line X.env = pure false := by rfl) (hw : swappedStores [.Subscript (.Subscript o ix tpos2) ix2 tpos] e X.env = pure none := by rfl)
    (h1 : (assignEach [.Subscript (.Subscript o ix tpos2) ix2 tpos] X.env).map (·.2) = [assign (.Subscript (.Subscript o ix tpos2) ix2 tpos) X.env] := by rfl)
    (ha : ∀ v, assign (.Subscript (.Subscript o ix tpos2) ix2 tpos) X.env v = (do
      let ov ← holding [v] (eval (.Subscript o ix tpos2) X.env)
      let iv ← holding [v, ov] (eval ix2 X.env)
      standAt tpos
      holding [v, ov, iv] (setItem ov iv v)
      release [v, ov, iv] []) := by intro _; rfl) : SS X W (mtput2 i f g h) (.Assign [.Subscript (.Subscript o ix tpos2) ix2 tpos] e pos) :=
  (ps_asg hf (pg_sub (pe_ix ix_seq ho hg hp) hg2 set_list ha) hs hw h1).imp fun D σ H ⟨F0, ρ, R, o⟩ => by
    refine sqE R o fun x ρ1 v H1 R1 S1 r1 o1 => ?_
    split at o1
    · rename_i b0 es0 e0
      have o1 : OutS X W F0 ρ1 σ H1 D (mbind f _ ρ1) := o1
      obtain ⟨a0, vs0, s0, _⟩ := R1.tre e0
      refine ⟨_, s0, sqE R1 o1 fun z ρ2 u H2 R2 S2 r2 o2 => ?_⟩
      split at o2
      · rename_i b1 es e
        split at o2
        · rename_i c ec
          obtain ⟨n, ds, rfl, ek⟩ := atP_get ec
          obtain ⟨a1, vs, s1, hv, r, nd⟩ := R2.tre e
          rw [s0] at s1; cases s1
          have o2 : OutS X W F0 ρ2 σ H2 D (mbind g _ ρ2) := o2
          refine .inl ⟨a0, vs, _, .ref c, rfl, r2.v_int, SqL.of hv, by rw [atI_nat]; exact (r.get_p ek).1, ?_⟩
          refine sqE R2 o2 fun z2 ρ3 u3 H3 R3 S3 r3 o3 => ?_
          obtain ⟨ws, k, jj, eu, hc, ej, q⟩ := putC_end R3 r3 (S3.rep (S2.rep r1)) o3
          exact ⟨c, ws, k, jj, rfl, eu, hc, ej, q⟩
        · exact o2.elim
      · exact o2.elim
    · exact o1.elim
/-- len(x) -/
def mtrlen (i : Nat) : M D := fun ρ => match ρ[i]? with
  | some (some (.tre _ es)) => .ok (.int (es.length : Nat)) ρ
  | _ => .bad
theorem se_trlen {i : Nat} {a : Expr} {p ppos : Pos} (ha : PE X a (tVar i))
    (h : ∀ {to : TE}, PE X a to → PE X (.Call (.Name "len" p) [a] [] ppos) (fun σ H Q => to σ H fun v H1 => ∃ x n, [v] = [x] ∧ LenV X.K x H1 n ∧ Q (.int n) H1)) :
    SE X W (mtrlen i) (.Call (.Name "len" p) [a] [] ppos) := (h ha).imp fun σ H Q ⟨F0, ρ, R, o⟩ => by
  unfold mtrlen at o
  split at o
  · rename_i bb es e
    obtain ⟨a, vs, e1, e2, r, _⟩ := R.tre e
    exact ⟨_, e1, _, _, rfl, .inl ⟨vs, SqL.of e2, rfl⟩, by rw [← r.length]; exact o _ H R (Stp.refl _ _ _) (.int _)⟩
  · exact o.elim
/-- x[f][g], read -/
def mtget2 (i : Nat) (f g : M D) : M D := fun ρ => match ρ[i]? with
  | some (some (.tre _ _)) => mbind f (fun z ρ1 => match ρ1[i]? with
    | some (some (.tre _ es)) => (match atP es z with
      | some c => mbind g (fun z2 ρ2 => match ρ2[i]? with
        | some (some (.tre _ es)) => (match findP es c with
          | some (_, ds) => (match idxD (.lst ds) z2 with
            | some y => .ok y ρ2
            | none => .bad)
          | none => .bad)
        | _ => .bad) ρ1
      | none => .bad)
    | _ => .bad) ρ
  | _ => .bad
end
end Z

/-! Z: a slot's list, lent to be read -/
namespace Z
open PySem L2
mutual
/-- no list within -/
def safeD : D → Bool
  | .non => true
  | .bl _ => true
  | .int _ => true
  | .str _ => true
  | .tup ds => safeDs ds
  | _ => false
def safeDs : List D → Bool
  | [] => true
  | x :: r => safeD x && safeDs r
end
def safeE : List El → Bool
  | [] => true
  | .d x :: r => safeD x && safeE r
  | .p _ ds :: r => safeDs ds && safeE r
def safeU : SV → Bool
  | .own _ ds => safeDs ds
  | .tre _ es => safeE es
  | _ => false
section
variable {K : PySem.W.Frag} {F G : Addr → Prop} {H : Hp} {a : Addr} {us : List V}
mutual
theorem Rep.safe (ha : H a = some (.lst us)) (hG : ∀ c, G c → F c ∨ c = a) : ∀ {d : D} {v : V}, safeD d = true → Rep K F H d v → Rep K G H d v
  | _, _, _, .non => .non
  | _, _, _, .bl b => .bl b
  | _, _, _, .int i => .int i
  | _, _, _, .str x => .str x
  | _, _, s, .tup (a := c) h n r => by
    have r' := Reps.safe ha hG s r
    by_cases hc : c = a
    · subst hc
      rcases h with (h | ⟨o, h⟩) | h
      · rw [ha] at h; cases h
      · rw [ha] at h; cases h
      · exact .tup (.inr h) (.inr fun _ => .inr h) r'
    · exact .tup h (n.imp (fun n z => (hG c z).elim n hc) id) r'
  | _, _, s, .lst _ _ _ => by cases s
  | _, _, s, .kls _ _ _ => by cases s
  | _, _, s, .dik _ _ _ => by cases s
  | _, _, s, .dit _ _ _ => by cases s
theorem Reps.safe (ha : H a = some (.lst us)) (hG : ∀ c, G c → F c ∨ c = a) : ∀ {ds : List D} {vs : List V}, safeDs ds = true → Reps K F H ds vs → Reps K G H ds vs
  | _, _, _, .nil => .nil
  | _, _, s, .cons h r => by
    unfold safeDs at s
    rw [Bool.and_eq_true] at s
    exact .cons (Rep.safe ha hG s.1 h) (Reps.safe ha hG s.2 r)
end
theorem Els.safe (ha : H a = some (.lst us)) (hG : ∀ c, G c → F c ∨ c = a) : ∀ {es : List El} {vs : List V}, safeE es = true → Els K F H es vs → Els K G H es vs
  | _, _, _, .nil => .nil
  | _, _, s, .d h r => by
    unfold safeE at s
    rw [Bool.and_eq_true] at s
    exact .d (h.safe ha hG s.1) (r.safe ha hG s.2)
  | _, _, s, .p e h r => by
    unfold safeE at s
    rw [Bool.and_eq_true] at s
    exact .p e (h.safe ha hG s.1) (r.safe ha hG s.2)
theorem Hold.safe (ha : H a = some (.lst us)) (hG : ∀ c, G c → F c ∨ c = a) {u : SV} {c : Addr} (s : safeU u = true) (h : Hold K F H u c) : Hold K G H u c := by
  cases h with
  | own e r => exact .own e (r.safe ha hG s)
  | dik e r => cases s
  | dit e r => cases s
  | tre e r n => exact .tre e (r.safe ha hG s) n
end
/-- what is left is as it was, or holds no list -/
def FrzOk (j : Nat) (ds : List D) (ρ : En) (x : D) (ρ' : En) : Prop := safeD x = true ∧ ρ'[j]? = some (some (.d (.lst ds))) ∧ ∀ (i : Nat) (u : SV), i ≠ j → ρ'[i]? = some (some u) → (∃ y, u = .d y ∧ ρ[i]? = some (some u)) ∨ safeU u = true
open Classical in
noncomputable def mfrz (j : Nat) (f : M D) : M D := fun ρ => match ρ[j]? with
  | some (some (.own false ds)) => (match f (ρ.set j (some (.d (.lst ds)))) with
    | .ok x ρ' => if FrzOk j ds ρ x ρ' then .ok x (ρ'.set j (some (.own false ds))) else .bad
    | _ => .bad)
  | _ => .bad
theorem frz_end {K : PySem.W.Frag} {F0 : Addr → Prop} {ρ : En} {σ : St} {H : Hp} {j : Nat} {ds : List D} (R : Rl K F0 ρ σ H) (ej : ρ[j]? = some (some (.own false ds))) :
    Rl K F0 (ρ.set j (some (.d (.lst ds)))) σ H ∧ ∀ ρ' H', Rl K F0 ρ' σ H' → Stp (ρ.set j (some (.d (.lst ds)))) σ H ρ' σ H' → ρ'[j]? = some (some (.d (.lst ds))) → (∀ (i : Nat) (u : SV), i ≠ j → ρ'[i]? = some (some u) → (∃ y, u = .d y ∧ ρ[i]? = some (some u)) ∨ safeU u = true) →
      Rl K F0 (ρ'.set j (some (.own false ds))) σ H' ∧ Stp ρ σ H (ρ'.set j (some (.own false ds))) σ H' ∧ ∀ {x : Z.D} {v : V}, safeD x = true → Rep K (Fav F0 ρ' σ) H' x v → Rep K (Fav F0 (ρ'.set j (some (.own false ds))) σ) H' x v := by
  obtain ⟨a, vs, sj, ha, ra, na⟩ := R.lst j false ds ej
  have hj : j < ρ.length := (List.getElem?_eq_some_iff.mp ej).1
  obtain ⟨a', e1, R1, S1, _⟩ := freeze (x := .lst ds) R ej rfl (fun _ z => by cases z) (fun _ z => by cases z) fun F a h n => by
    cases h with
    | own ha r => exact .lst ha (n a (.inl ⟨rfl, rfl⟩)) r
  have ow0 : ∀ c, Own (ρ.set j (some (.d (.lst ds)))) σ c → Own ρ σ c := fun c ⟨i, u, e, s⟩ => by
    by_cases hi : i = j
    · subst hi
      rw [List.getElem?_set_self hj] at e
      cases e
      exact absurd s (no_has rfl)
    · rw [List.getElem?_set_ne (Ne.symm hi)] at e
      exact ⟨i, u, e, s⟩
  have na0 : ¬ Own (ρ.set j (some (.d (.lst ds)))) σ a := fun ⟨i, u, e, s⟩ => by
    by_cases hi : i = j
    · subst hi
      rw [List.getElem?_set_self hj] at e
      cases e
      exact absurd s (no_has rfl)
    · rw [List.getElem?_set_ne (Ne.symm hi)] at e
      exact hi (R.inj i j u _ a e ej s (.inl ⟨rfl, sj⟩))
  refine ⟨R1, fun ρ' H' R' S' hj' hoth => ?_⟩
  have hj2 : j < ρ'.length := (List.getElem?_eq_some_iff.mp hj').1
  have hH' : H' a = some (.lst vs) := S'.keep a _ ha na0
  have set_at : ∀ {i : Nat} {u : SV}, (ρ'.set j (some (.own false ds)))[i]? = some (some u) → (i = j ∧ u = .own false ds) ∨ (i ≠ j ∧ ρ'[i]? = some (some u)) := fun {i u} e => by
    by_cases hi : i = j
    · subst hi
      rw [List.getElem?_set_self hj2] at e
      cases e
      exact .inl ⟨rfl, rfl⟩
    · rw [List.getElem?_set_ne (Ne.symm hi)] at e
      exact .inr ⟨hi, e⟩
  have ow2 : ∀ c, Own (ρ'.set j (some (.own false ds))) σ c → Own ρ' σ c ∨ c = a := fun c ⟨i, u, e, s⟩ => by
    rcases set_at e with ⟨hi, hu⟩ | ⟨hi, e⟩
    · subst hi; subst hu
      rw [sj] at s
      have := own_has s
      cases this
      exact .inr rfl
    · exact .inl ⟨i, u, e, s⟩
  have na2 : ¬ Own ρ' σ a := fun z => (S'.own a z).elim na0 fun z => by rw [ha] at z; cases z
  have ow3 : ∀ c, Own (ρ'.set j (some (.own false ds))) σ c → Own ρ σ c ∨ H c = none := fun c z => by
    rcases ow2 c z with z | z
    · exact (S'.own c z).imp (ow0 c) id
    · rw [z]; exact .inl ⟨j, _, ej, .inl ⟨rfl, sj⟩⟩
  have hG : ∀ c, Fav F0 (ρ'.set j (some (.own false ds))) σ c → Fav F0 ρ' σ c ∨ c = a := fun c z => by
    rcases z with z | z
    · exact .inl (.inl z)
    · exact (ow2 c z).imp .inr id
  have m : ∀ c, Fav F0 (ρ'.set j (some (.own false ds))) σ c → Fav F0 ρ σ c ∨ H c = none := fun c z => by
    rcases z with z | z
    · exact .inl (.inl z)
    · exact (ow3 c z).imp .inr id
  have m2 : ∀ c o, H c = some o → ¬ Fav F0 ρ σ c → H' c = some o := fun c o e n => S'.keep c o e fun z => n (.inr (ow0 c z))
  have R2 : Rl K F0 (ρ'.set j (some (.own false ds))) σ H' := by
    refine ⟨by rw [List.length_set]; exact R'.len, fun i y e => ?_, fun i u w e => ?_, fun i k u1 u2 c ei ek si sk => ?_, R'.alc, fun i q e => ?_⟩
    · rcases set_at e with ⟨_, z⟩ | ⟨hi, e⟩
      · cases z
      · rcases hoth i _ hi e with ⟨z, _, e0⟩ | s
        · obtain ⟨v, ev, r⟩ := R.dat i y e0
          exact ⟨v, ev, r.mono m m2⟩
        · cases s
    · rcases set_at e with ⟨hi, hu⟩ | ⟨hi, e⟩
      · subst hi; subst hu
        refine ⟨a, sj, .own hH' (ra.mono m m2), fun c hc z => ?_⟩
        rw [sj] at hc
        have := own_has hc
        cases this
        exact na z
      · rcases hoth i _ hi e with ⟨y, z, _⟩ | s
        · subst z; cases w
        · obtain ⟨b, sb, h, n⟩ := R'.own i u w e
          exact ⟨b, sb, h.safe hH' hG s, n⟩
    · have other : ∀ {i : Nat} {u : SV} {c : Addr}, i ≠ j → ρ'[i]? = some (some u) → u.has σ[i]? c → c ≠ a := fun {i u c} hi e s z => by
        subst z
        exact na2 ⟨i, u, e, s⟩
      have mine : ∀ {c : Addr}, (SV.own false ds).has σ[j]? c → c = a := fun {c} s => by
        rw [sj] at s
        have := own_has s
        cases this
        rfl
      rcases set_at ei with ⟨hi, hu⟩ | ⟨hi, ei'⟩
      · rcases set_at ek with ⟨hk, hu2⟩ | ⟨hk, ek'⟩
        · rw [hi, hk]
        · rw [hi, hu] at si
          exact absurd (mine si) (other hk ek' sk)
      · rcases set_at ek with ⟨hk, hu2⟩ | ⟨hk, ek'⟩
        · rw [hk, hu2] at sk
          exact absurd (mine sk) (other hi ei' si)
        · exact R'.inj i k u1 u2 c ei' ek' si sk
    · rcases set_at e with ⟨_, z⟩ | ⟨hi, e⟩
      · cases z
      · exact R'.obj i q e
  refine ⟨R2, ⟨fun c o e n => S'.keep c o e fun z => n (ow0 c z), ow3, S'.trk, fun i ds1 e => ?_, fun i es1 e => ?_, by rw [List.length_set, S'.len, List.length_set]⟩, fun {x v} hx rx => rx.safe hH' hG hx⟩
  · have hi : j ≠ i := fun z => by subst z; rw [ej] at e; cases e
    obtain ⟨g1, ds2, g2⟩ := S'.io i ds1 (by rw [List.getElem?_set_ne hi]; exact e)
    exact ⟨g1, ds2, by rw [List.getElem?_set_ne hi]; exact g2⟩
  · have hi : j ≠ i := fun z => by subst z; rw [ej] at e; cases e
    obtain ⟨g1, es2, g2, g3⟩ := S'.ioT i es1 (by rw [List.getElem?_set_ne hi]; exact e)
    exact ⟨g1, es2, by rw [List.getElem?_set_ne hi]; exact g2, g3⟩
theorem frz_of {X : Cx} {W : WX} {j : Nat} {f : M D} : ∀ σ H Q, tE X W (mfrz j f) σ H Q → tE X W f σ H Q := fun σ H Q ⟨F0, ρ, R, o⟩ => by
  unfold mfrz at o
  split at o
  · rename_i ds ej
    obtain ⟨R1, back⟩ := frz_end R ej
    refine ⟨F0, _, R1, ?_⟩
    split at o
    · rename_i x ρ' ef
      split at o
      · rename_i hok
        rw [ef]
        intro v H' R' S' rx
        obtain ⟨R2, S2, sf⟩ := back ρ' H' R' S' hok.2.1 hok.2.2
        exact o v H' R2 S2 (sf hok.1 rx)
      · exact o.elim
    · exact o.elim
  · exact o.elim
theorem se_frz {X : Cx} {W : WX} {j : Nat} {f : M D} {e : Expr} (h : SE X W f e) : SE X W (mfrz j f) e := h.imp frz_of
/-- the same of a test -/
def FrzT (j : Nat) (ds : List D) (ρ : En) (ρ' : En) : Prop := ρ'[j]? = some (some (.d (.lst ds))) ∧ ∀ (i : Nat) (u : SV), i ≠ j → ρ'[i]? = some (some u) → (∃ y, u = .d y ∧ ρ[i]? = some (some u)) ∨ safeU u = true
open Classical in
noncomputable def mfrzT (j : Nat) (f : M Bool) : M Bool := fun ρ => match ρ[j]? with
  | some (some (.own false ds)) => (match f (ρ.set j (some (.d (.lst ds)))) with
    | .ok x ρ' => if FrzT j ds ρ ρ' then .ok x (ρ'.set j (some (.own false ds))) else .bad
    | _ => .bad)
  | _ => .bad
theorem st_frz {X : Cx} {W : WX} {j : Nat} {f : M Bool} {e : Expr} (h : ST X W f e) : ST X W (mfrzT j f) e := h.imp fun σ H Q ⟨F0, ρ, R, o⟩ => by
  unfold mfrzT at o
  split at o
  · rename_i ds ej
    obtain ⟨R1, back⟩ := frz_end R ej
    refine ⟨F0, _, R1, ?_⟩
    split at o
    · rename_i x ρ' ef
      split at o
      · rename_i hok
        rw [ef]
        intro H' R' S'
        obtain ⟨R2, S2, _⟩ := back ρ' H' R' S' hok.1 hok.2
        exact o H' R2 S2
      · exact o.elim
    · exact o.elim
  · exact o.elim
end Z

/-! Z: zip of two iterators of any kind: here a tuple's and a list's -/
namespace ZZ
open PySem PySem.Spec PyProof.Rows
/-- what is asked of the iterator at i over the thing at l, standing at k; it: its items -/
structure Nx (prog : Program) (w : World) (i l : Addr) (P : Nat → Heap → Prop) (it : Nat → Option Value) : Prop where
  go : ∀ (A : Around) (E : Value → Shared → Prop) (s : Shared) (k : Nat) (v : Value) (Q : Value → Shared → Prop), P k s.heap → it k = some v → (∀ h', P (k + 1) h' → Heap.SameBut i s.heap h' → Q v { s with heap := h' }) → wpAny (model prog w) A (Builtin.SmallTypes.nextOf (.ref i)) Q E s
  fin : ∀ (A : Around) (E : Value → Shared → Prop) (s : Shared) (k : Nat) (Q : Value → Shared → Prop), A.handled = none → P k s.heap → it k = none → (∀ h' e, Heap.ExtBut i s.heap h' → (∃ o, h'.get? e = some o ∧ o.cls = .type "StopIteration") → E (.ref e) { s with heap := h' }) → wpAny (model prog w) A (Builtin.SmallTypes.nextOf (.ref i)) Q E s
  keep : ∀ k h h', P k h → (∀ c o, c = i ∨ c = l → h.get? c = some o → h'.get? c = some o) → P k h'
def ofT (i l : Addr) (xs : Array Value) (k : Nat) (h : Heap) : Prop := h.IsTupleIter i l k ∧ h.IsTuple l xs
def ofL (i l : Addr) (xs : Array Value) (k : Nat) (h : Heap) : Prop := h.IsListIter i l k ∧ h.IsList l xs
variable {prog : Program} {w : World}
theorem nxT {i l : Addr} {xs : Array Value} (ne : l ≠ i) : Nx prog w i l (ofT i l xs) (fun k => xs[k]?) where
  go := fun A E s k v Q p e q => RZ.nextOf_tuple_item p.1 p.2 e fun h' a b => q h' ⟨a, p.2.extBut b.extBut ne⟩ b
  fin := fun A E s k Q hh p e q => RZ.nextOf_tuple_end hh p.1 p.2 e q
  keep := fun k h h' p m => ⟨p.1.at fun o e => m i o (.inl rfl) e, by
    obtain ⟨o, e, r⟩ := p.2
    exact ⟨o, m l o (.inr rfl) e, r⟩⟩
theorem nxL {i l : Addr} {xs : Array Value} (ne : l ≠ i) : Nx prog w i l (ofL i l xs) (fun k => xs[k]?) where
  go := fun A E s k v Q p e q => wpAny_nextOf_list_item p.1 p.2 e fun h' a b => q h' ⟨a, p.2.extBut b.extBut ne⟩ b
  fin := fun A E s k Q hh p e q => wpAny_nextOf_list_end hh p.1 p.2 e q
  keep := fun k h h' p m => ⟨p.1.at fun o e => m i o (.inl rfl) e, by
    obtain ⟨o, e, r⟩ := p.2
    exact ⟨o, m l o (.inr rfl) e, r⟩⟩
section
variable {A : Around} {E : Value → Shared → Prop} {s : Shared} {z TI TO i1 i2 l1 l2 : Addr} {P1 P2 : Nat → Heap → Prop} {f1 f2 : Nat → Option Value} {k : Nat} {a b : Value}
/-- all but the zip's own parts -/
def Kept (z TO i1 i2 : Addr) (h h' : Heap) : Prop := ∀ c o, c ≠ z → c ≠ TO → c ≠ i1 → c ≠ i2 → h.get? c = some o → h'.get? c = some o
theorem step {x y : Value} {Q : Value → Shared → Prop} (D : ZipApart z TI TO i1 i2 l1 l2) (N1 : Nx prog w i1 l1 P1 f1) (N2 : Nx prog w i2 l2 P2 f2) (hz : IsZip s.heap z TI TO .none) (hTI : IsPair s.heap TI (.ref i1) (.ref i2)) (hTO : IsPair s.heap TO a b)
    (p1 : P1 k s.heap) (p2 : P2 k s.heap) (hx : f1 k = some x) (hy : f2 k = some y)
    (hQ : ∀ h', IsZip h' z TI TO (rawInt s.heap.objs.size) → IsPair h' TO x y → P1 (k + 1) h' → P2 (k + 1) h' → IsPair h' s.heap.objs.size x y → h'.objs.size = s.heap.objs.size + 1 → Kept z TO i1 i2 s.heap h' → Q (.ref s.heap.objs.size) { s with heap := h' }) :
    wpAny (model prog w) A (Builtin.«zip.__next__» ⟨[.ref z], []⟩) (fun fin s' => ∃ v, fin = .done (.ret v) ∧ Q v s') E s := by
  show wpAny _ _ (field (.ref z) 2 >>= _) _ _ _
  refine wpAny_bind (wpAny_field hz rfl (x := .bool false) rfl ?_)
  show wpAny _ _ (field (.ref z) 3 >>= _) _ _ _
  refine wpAny_bind (wpAny_field hz rfl (x := .ref TI) rfl (wpAny_bind (wpAny_seqItems hTI rfl ?_)))
  show wpAny _ _ (Builtin.SmallTypes.ownedTupleIsFree (.ref z) >>= _) _ _ _
  refine wpAny_bind ?_
  unfold Builtin.SmallTypes.ownedTupleIsFree
  refine wpAny_bind (wpAny_field hz rfl (x := .none) rfl (wpAny_pure ?_))
  simp only [if_true]
  refine wpAny_bind (wpAny_rule (wpAny_bind (wpAny_field hz rfl (x := .ref TO) rfl (wpAny_bind (wpAny_setField_rec hz (by simp) fun g1 hz1 s1 => ?_)))))
  replace hz1 : IsZip g1 z TI TO .ellipsis := hz1
  have q1 : P1 k g1 := N1.keep _ _ _ p1 fun c o h e => s1.extBut _ _ (h.elim (fun h => h ▸ D.i1z) fun h => h ▸ D.l1z) e
  have q2 : P2 k g1 := N2.keep _ _ _ p2 fun c o h e => s1.extBut _ _ (h.elim (fun h => h ▸ D.i2z) fun h => h ▸ D.l2z) e
  refine wpAny_bind ?_
  simp only [List.zipIdx_cons, List.zipIdx_nil, List.forIn_cons, List.forIn_nil]
  refine wpAny_bind (wpAny_bind (wpAny_onRaise ?_))
  show wpAny _ _ (Builtin.SmallTypes.nextOf (.ref i1) >>= _) _ _ _
  refine wpAny_bind (N1.go _ _ _ k x _ q1 hx fun g2 r1 s2 => wpAny_pure ?_)
  have t2 : IsPair g2 TO a b := s2.extBut _ _ D.TOi1 (s1.extBut _ _ D.TOz hTO)
  refine wpAny_bind (wpAny_seqItems t2 rfl (wpAny_bind (wpAny_updateSeq_pair t2 fun g3 t3 s3 => ?_)))
  replace t3 : IsPair g3 TO x b := t3
  have q3 : P2 k g3 := N2.keep _ _ _ q2 fun c o h e => s3.extBut _ _ (h.elim (fun h => h ▸ D.TOi2.symm) fun h => h ▸ D.l2TO) (s2.extBut _ _ (h.elim (fun h => h ▸ D.i12.symm) fun h => h ▸ D.l2i1) e)
  refine wpAny_bind (wpAny_letGo (wpAny_pure (wpAny_bind (wpAny_bind (wpAny_onRaise ?_)))))
  show wpAny _ _ (Builtin.SmallTypes.nextOf (.ref i2) >>= _) _ _ _
  refine wpAny_bind (N2.go _ _ _ k y _ q3 hy fun g4 r2 s4 => wpAny_pure ?_)
  have t4 : IsPair g4 TO x b := s4.extBut _ _ D.TOi2 t3
  refine wpAny_bind (wpAny_seqItems t4 rfl (wpAny_bind (wpAny_updateSeq_pair t4 fun g5 t5 s5 => ?_)))
  replace t5 : IsPair g5 TO x y := t5
  refine wpAny_bind (wpAny_letGo (wpAny_pure (wpAny_pure (wpAny_bind (wpAny_seqItems t5 rfl (wpAny_bind (wpAny_newTuple ?_)))))))
  have sz : g5.objs.size = s.heap.objs.size := by rw [s5.1, s4.1, s3.1, s2.1, s1.1]
  have z5 : IsZip g5 z TI TO .ellipsis := s5.extBut _ _ D.TOz.symm (s4.extBut _ _ D.i2z.symm (s3.extBut _ _ D.TOz.symm (s2.extBut _ _ D.i1z.symm hz1)))
  have k5 : Kept z TO i1 i2 s.heap g5 := fun c o c1 c2 c3 c4 e => s5.extBut _ _ c2 (s4.extBut _ _ c4 (s3.extBut _ _ c2 (s2.extBut _ _ c3 (s1.extBut _ _ c1 e))))
  have e1 : P1 (k + 1) g5 := N1.keep _ _ _ r1 fun c o h e => s5.extBut _ _ (h.elim (fun h => h ▸ D.TOi1.symm) fun h => h ▸ D.l1TO) (s4.extBut _ _ (h.elim (fun h => h ▸ D.i12) fun h => h ▸ D.l1i2) (s3.extBut _ _ (h.elim (fun h => h ▸ D.TOi1.symm) fun h => h ▸ D.l1TO) e))
  have e2 : P2 (k + 1) g5 := N2.keep _ _ _ r2 fun c o h e => s5.extBut _ _ (h.elim (fun h => h ▸ D.TOi2.symm) fun h => h ▸ D.l2TO) e
  show wpAny _ _ (Builtin.SmallTypes.ownedTupleHandOut (.ref z) (.ref g5.objs.size) >>= _) _ _ _
  refine wpAny_bind ?_
  unfold Builtin.SmallTypes.ownedTupleHandOut
  have z6 : IsZip (g5.push { cls := .type "tuple", data := .seq #[x, y] }) z TI TO .ellipsis := Heap.get?_push_of_some _ z5
  refine wpAny_bind (wpAny_setField_rec z6 (by simp) fun g7 z7 s7 => ?_)
  replace z7 : IsZip g7 z TI TO (rawInt g5.objs.size) := z7
  refine wpAny_setField_rec z7 (by simp) fun g8 z8 s8 => ?_
  replace z8 : IsZip g8 z TI TO (rawInt g5.objs.size) := z8
  have up : ∀ c o, c ≠ z → g5.get? c = some o → g8.get? c = some o := fun c o c1 e => s8.extBut _ _ c1 (s7.extBut _ _ c1 (Heap.get?_push_of_some _ e))
  have t8 : IsPair g8 g5.objs.size x y := s8.extBut _ _ (Nat.ne_of_gt (Heap.lt_size z5)) (s7.extBut _ _ (Nat.ne_of_gt (Heap.lt_size z5)) (Heap.get?_push_size _ rfl))
  have sz8 : g8.objs.size = g5.objs.size + 1 := by rw [s8.1, s7.1, Heap.size_push]
  rw [sz] at z8 t8 sz8
  refine wpAny_pure ⟨_, rfl, ?_⟩
  show Q (.ref g5.objs.size) _
  rw [sz]
  exact hQ g8 z8 (up _ _ D.TOz t5) (N1.keep _ _ _ e1 fun c o h e => up _ o (h.elim (fun h => h ▸ D.i1z) fun h => h ▸ D.l1z) e) (N2.keep _ _ _ e2 fun c o h e => up _ o (h.elim (fun h => h ▸ D.i2z) fun h => h ▸ D.l2z) e) t8 sz8 fun c o c1 c2 c3 c4 e => up c o c1 (k5 c o c1 c2 c3 c4 e)
theorem stop {Q : Fin → Shared → Prop} (hh : A.handled = none) (D : ZipApart z TI TO i1 i2 l1 l2) (N1 : Nx prog w i1 l1 P1 f1) (N2 : Nx prog w i2 l2 P2 f2) (hz : IsZip s.heap z TI TO .none) (hTI : IsPair s.heap TI (.ref i1) (.ref i2)) (hTO : IsPair s.heap TO a b)
    (p1 : P1 k s.heap) (p2 : P2 k s.heap) (hend : f1 k = none ∨ f2 k = none)
    (hE : ∀ h' e, Kept z TO i1 i2 s.heap h' → (∃ o, h'.get? e = some o ∧ o.cls = .type "StopIteration") → E (.ref e) { s with heap := h' }) :
    wpAny (model prog w) A (Builtin.«zip.__next__» ⟨[.ref z], []⟩) Q E s := by
  show wpAny _ _ (field (.ref z) 2 >>= _) _ _ _
  refine wpAny_bind (wpAny_field hz rfl (x := .bool false) rfl ?_)
  show wpAny _ _ (field (.ref z) 3 >>= _) _ _ _
  refine wpAny_bind (wpAny_field hz rfl (x := .ref TI) rfl (wpAny_bind (wpAny_seqItems hTI rfl ?_)))
  show wpAny _ _ (Builtin.SmallTypes.ownedTupleIsFree (.ref z) >>= _) _ _ _
  refine wpAny_bind ?_
  unfold Builtin.SmallTypes.ownedTupleIsFree
  refine wpAny_bind (wpAny_field hz rfl (x := .none) rfl (wpAny_pure ?_))
  simp only [if_true]
  refine wpAny_bind (wpAny_rule (wpAny_bind (wpAny_field hz rfl (x := .ref TO) rfl (wpAny_bind (wpAny_setField_rec hz (by simp) fun g1 hz1 s1 => ?_)))))
  replace hz1 : IsZip g1 z TI TO .ellipsis := hz1
  have q1 : P1 k g1 := N1.keep _ _ _ p1 fun c o h e => s1.extBut _ _ (h.elim (fun h => h ▸ D.i1z) fun h => h ▸ D.l1z) e
  have q2 : P2 k g1 := N2.keep _ _ _ p2 fun c o h e => s1.extBut _ _ (h.elim (fun h => h ▸ D.i2z) fun h => h ▸ D.l2z) e
  refine wpAny_bind ?_
  simp only [List.zipIdx_cons, List.zipIdx_nil, List.forIn_cons, List.forIn_nil]
  refine wpAny_bind (wpAny_bind (wpAny_onRaise ?_))
  show wpAny _ _ (Builtin.SmallTypes.nextOf (.ref i1) >>= _) _ _ _
  cases hx : f1 k with
  | none =>
    refine wpAny_bind (N1.fin _ _ _ k _ hh q1 hx fun g2 e s2 he => ?_)
    obtain ⟨oe, hoe, hce⟩ := he
    have z2 : IsZip g2 z TI TO .ellipsis := s2 _ _ D.i1z.symm hz1
    have ez : e ≠ z := fun q => by subst q; rw [z2] at hoe; cases hoe; simp at hce
    exact wpAny_setField_rec z2 (by simp) fun g3 _ s3 => hE g3 e (fun c o c1 _ c3 _ q => s3.extBut _ _ c1 (s2 _ _ c3 (s1.extBut _ _ c1 q))) ⟨oe, s3.extBut _ _ ez hoe, hce⟩
  | some x =>
    have hy : f2 k = none := hend.resolve_left (by rw [hx]; exact fun q => by cases q)
    refine wpAny_bind (N1.go _ _ _ k x _ q1 hx fun g2 r1 s2 => wpAny_pure ?_)
    have t2 : IsPair g2 TO a b := s2.extBut _ _ D.TOi1 (s1.extBut _ _ D.TOz hTO)
    refine wpAny_bind (wpAny_seqItems t2 rfl (wpAny_bind (wpAny_updateSeq_pair t2 fun g3 t3 s3 => ?_)))
    have q3 : P2 k g3 := N2.keep _ _ _ q2 fun c o h e => s3.extBut _ _ (h.elim (fun h => h ▸ D.TOi2.symm) fun h => h ▸ D.l2TO) (s2.extBut _ _ (h.elim (fun h => h ▸ D.i12.symm) fun h => h ▸ D.l2i1) e)
    refine wpAny_bind (wpAny_letGo (wpAny_pure (wpAny_bind (wpAny_bind (wpAny_onRaise ?_)))))
    show wpAny _ _ (Builtin.SmallTypes.nextOf (.ref i2) >>= _) _ _ _
    refine wpAny_bind (N2.fin _ _ _ k _ hh q3 hy fun g4 e s4 he => ?_)
    obtain ⟨oe, hoe, hce⟩ := he
    have z4 : IsZip g4 z TI TO .ellipsis := s4 _ _ D.i2z.symm (s3.extBut _ _ D.TOz.symm (s2.extBut _ _ D.i1z.symm hz1))
    have ez : e ≠ z := fun q => by subst q; rw [z4] at hoe; cases hoe; simp at hce
    exact wpAny_setField_rec z4 (by simp) fun g5 _ s5 => hE g5 e (fun c o c1 c2 c3 c4 q => s5.extBut _ _ c1 (s4 _ _ c4 (s3.extBut _ _ c2 (s2.extBut _ _ c3 (s1.extBut _ _ c1 q))))) ⟨oe, s5.extBut _ _ ez hoe, hce⟩
end
end ZZ

/-! Z: for x, y in zip(a tuple, a list) -/
namespace ZZ
open PySem PySem.Spec PyProof.Rows
section
variable {prog : Program} {w : World} {A : Around} {E : Value → Shared → Prop} {s : Shared} {z TI TO i1 i2 l1 l2 : Addr} {P1 P2 : Nat → Heap → Prop} {f1 f2 : Nat → Option Value} {k : Nat} {a b : Value}
theorem next_step {x y : Value} {Q : Option Value → Shared → Prop} (D : ZipApart z TI TO i1 i2 l1 l2) (N1 : Nx prog w i1 l1 P1 f1) (N2 : Nx prog w i2 l2 P2 f2) (hz : IsZip s.heap z TI TO .none) (hTI : IsPair s.heap TI (.ref i1) (.ref i2)) (hTO : IsPair s.heap TO a b)
    (p1 : P1 k s.heap) (p2 : P2 k s.heap) (hx : f1 k = some x) (hy : f2 k = some y)
    (hQ : ∀ h', IsZip h' z TI TO (rawInt s.heap.objs.size) → IsPair h' TO x y → P1 (k + 1) h' → P2 (k + 1) h' → IsPair h' s.heap.objs.size x y → h'.objs.size = s.heap.objs.size + 1 → Kept z TO i1 i2 s.heap h' → Q (some (.ref s.heap.objs.size)) { s with heap := h' }) :
    wpAny (model prog w) A (pyNext (.ref z)) Q E s := by
  have hT : s.TypeIs (.ref z) "zip" := ⟨_, hz, rfl⟩
  unfold pyNext
  exact wpAny_bind (wpAny_attempt (wpAny_callSpecial?_slot (name := Str.ofString "__next__") hT F.slot_zip_next (wpAny_call_entry F.slot_zip_next hT F.entry_zip_next (step D N1 N2 hz hTI hTO p1 p2 hx hy fun h' a1 a2 a3 a4 a5 a6 a7 => wpAny_pure (hQ h' a1 a2 a3 a4 a5 a6 a7)) (F.args_zip_next_1 _))))
theorem next_stop {Q : Option Value → Shared → Prop} (hh : A.handled = none) (D : ZipApart z TI TO i1 i2 l1 l2) (N1 : Nx prog w i1 l1 P1 f1) (N2 : Nx prog w i2 l2 P2 f2) (hz : IsZip s.heap z TI TO .none) (hTI : IsPair s.heap TI (.ref i1) (.ref i2)) (hTO : IsPair s.heap TO a b)
    (p1 : P1 k s.heap) (p2 : P2 k s.heap) (hend : f1 k = none ∨ f2 k = none) (hQ : ∀ h', Kept z TO i1 i2 s.heap h' → Q none { s with heap := h' }) : wpAny (model prog w) A (pyNext (.ref z)) Q E s := by
  have hT : s.TypeIs (.ref z) "zip" := ⟨_, hz, rfl⟩
  unfold pyNext
  refine wpAny_bind (wpAny_attempt (wpAny_callSpecial?_slot (name := Str.ofString "__next__") hT F.slot_zip_next (wpAny_call_entry F.slot_zip_next hT F.entry_zip_next (stop hh D N1 N2 hz hTI hTO p1 p2 hend fun h' e hk he => ?_) (F.args_zip_next_1 _))))
  obtain ⟨o, ho, hc⟩ := he
  exact wpAny_bind (wpAny_isInstance (T := "StopIteration") (b := true) ⟨o, ho, hc⟩ isSubtype_stop (wpAny_pure (hQ _ hk)))
abbrev h1M (h : Heap) (l : Addr) : Heap := h.push { cls := .type "tuple_iterator", data := .fields #[.ref l, .int 0 0] }
abbrev h2M (h : Heap) (l m : Addr) : Heap := (h1M h l).push { cls := .type "list_iterator", data := .fields #[.ref m, .int 0 0] }
abbrev h3M (h : Heap) (l m : Addr) : Heap := (h2M h l m).push { cls := .type "tuple", data := .seq #[.ref h.objs.size, .ref (h1M h l).objs.size] }
abbrev h4M (h : Heap) (l m : Addr) : Heap := (h3M h l m).push { cls := .type "tuple", data := .seq #[.none, .none] }
abbrev h5M (h : Heap) (l m : Addr) : Heap := (h4M h l m).push { cls := .type "zip", data := .fields #[.none, .bool false, .bool false, .ref (h2M h l m).objs.size, .ref (h3M h l m).objs.size] }
theorem made (l m : Addr) (xs ys : Array Value) : Meets (Builtin.«zip.__new__» ⟨[.type "zip", .ref l, .ref m], []⟩) (fun _ R s => s.heap.IsTuple l xs ∧ s.heap.IsList m ys ∧ R (.ok (.ret (.ref (h4M s.heap l m).objs.size))) { s with heap := h5M s.heap l m }) :=
  .of_wp fun prog w A R s h => by
    obtain ⟨hp, g, d, tk, os⟩ := s
    obtain ⟨hl, hm, h⟩ := h
    have hsub := sub_zip
    have a1 : Heap.IsTuple (Shared.heap ⟨hp, g, d, tk, os⟩) l xs := hl
    have a2 : Heap.IsList (Shared.heap ⟨hp.push { cls := .type "tuple_iterator", data := .fields #[.ref l, .int 0 0] }, g, d, tk, os⟩) m ys := by
      obtain ⟨o, e, r⟩ := hm
      exact ⟨o, Heap.get?_push_of_some _ e, r⟩
    wp_walk using wpAny_pyIter_tuple a1, wpAny_pyIter_list a2
    exact ⟨_, rfl, h⟩
theorem call_zipM {xs ys : Array Value} {Q : Value → Shared → Prop} (hl : s.heap.IsTuple l1 xs) (hm : s.heap.IsList l2 ys)
    (h : ∀ h', IsZip h' (s.heap.objs.size + 4) (s.heap.objs.size + 2) (s.heap.objs.size + 3) .none → IsPair h' (s.heap.objs.size + 2) (.ref s.heap.objs.size) (.ref (s.heap.objs.size + 1)) →
      IsPair h' (s.heap.objs.size + 3) .none .none → h'.IsTupleIter s.heap.objs.size l1 0 → h'.IsListIter (s.heap.objs.size + 1) l2 0 → (∀ c o, s.heap.get? c = some o → h'.get? c = some o) → Q (.ref (s.heap.objs.size + 4)) { s with heap := h' }) :
    wpAny (model prog w) A (call (.type "zip") [.ref l1, .ref l2]) Q E s := by
  refine callType_new F.called_zip (by decide) (F.typeCall_zip_2 _ _) (F.newCall_zip_2 _ _) (fun obj => F.args_object_init_3 obj _ _) F.entry_zip_new (made l1 l2 xs ys) ⟨hl, hm, ?_⟩
  have n1 : (h1M s.heap l1).objs.size = s.heap.objs.size + 1 := Heap.size_push ..
  have n2 : (h2M s.heap l1 l2).objs.size = s.heap.objs.size + 2 := by rw [Heap.size_push, n1]
  have n3 : (h3M s.heap l1 l2).objs.size = s.heap.objs.size + 3 := by rw [Heap.size_push, n2]
  have n4 : (h4M s.heap l1 l2).objs.size = s.heap.objs.size + 4 := by rw [Heap.size_push, n3]
  have u4 : ∀ {c : Addr} {o : Obj}, (h4M s.heap l1 l2).get? c = some o → (h5M s.heap l1 l2).get? c = some o := fun e => Heap.get?_push_of_some _ e
  have u3 : ∀ {c : Addr} {o : Obj}, (h3M s.heap l1 l2).get? c = some o → (h5M s.heap l1 l2).get? c = some o := fun e => u4 (Heap.get?_push_of_some _ e)
  have u2 : ∀ {c : Addr} {o : Obj}, (h2M s.heap l1 l2).get? c = some o → (h5M s.heap l1 l2).get? c = some o := fun e => u3 (Heap.get?_push_of_some _ e)
  have u1 : ∀ {c : Addr} {o : Obj}, (h1M s.heap l1).get? c = some o → (h5M s.heap l1 l2).get? c = some o := fun e => u2 (Heap.get?_push_of_some _ e)
  have g5 : (h5M s.heap l1 l2).get? (h4M s.heap l1 l2).objs.size = some _ := Heap.get?_push_size _ rfl
  have g4 : (h5M s.heap l1 l2).get? (h3M s.heap l1 l2).objs.size = some _ := u4 (Heap.get?_push_size _ rfl)
  have g3 : (h5M s.heap l1 l2).get? (h2M s.heap l1 l2).objs.size = some _ := u3 (Heap.get?_push_size _ rfl)
  have g2 : (h5M s.heap l1 l2).get? (h1M s.heap l1).objs.size = some _ := u2 (Heap.get?_push_size _ rfl)
  have g1 : (h5M s.heap l1 l2).get? s.heap.objs.size = some _ := u1 (Heap.get?_push_size _ rfl)
  show _ ∧ _
  rw [n2, n3, n4] at g5
  rw [n1, n2] at g3
  rw [n3] at g4
  rw [n1] at g2
  rw [n4]
  exact ⟨⟨_, g5, rfl⟩, h _ g5 g3 g4 ⟨_, g1, rfl, rfl⟩ ⟨_, g2, rfl, rfl⟩ fun c o x => u1 (Heap.get?_push_of_some _ x)⟩
end
open L2
/-- the tuple at a, the list at b -/
def ItM (K : PySem.W.Frag) (a b : Addr) : It where
  go := fun i H => ∃ (xs ys : List V) (x y : V), SqT K H a xs ∧ SqL K H b ys ∧ xs[i]? = some x ∧ ys[i]? = some y
  yld := fun i H v H' => ∃ T x y, v = .ref T ∧ H T = none ∧ H' = upd H T (.tup [x, y]) ∧ (∀ xs, SqT K H a xs → xs[i]? = some x) ∧ ∀ ys, SqL K H b ys → ys[i]? = some y
  stop := fun i H => ∃ xs ys : List V, SqT K H a xs ∧ SqL K H b ys ∧ (xs.length ≤ i ∨ ys.length ≤ i)
/-- what stands at turn i -/
def atM (z TI TO i1 i2 a b : Addr) (i : Nat) (h : Heap) : Prop := IsZip h z TI TO .none ∧ IsPair h TI (.ref i1) (.ref i2) ∧ (∃ x y, IsPair h TO x y) ∧ h.IsTupleIter i1 a i ∧ h.IsListIter i2 b i
theorem turnM {P : Program} {w : World} {K : PySem.W.Frag} {elts : List Expr} {kk : Nat} {tpos : Pos} {a b z TI TO i1 i2 : Addr} (D : ZipApart z TI TO i1 i2 a b) : Turn P w K (.Tuple elts kk tpos) (ItM K a b) [z, TI, TO, i1, i2] z (atM z TI TO i1 i2 a b) := by
  have five : ∀ {c : Addr}, c ∈ [z, TI, TO, i1, i2] → c = z ∨ c = TI ∨ c = TO ∨ c = i1 ∨ c = i2 := fun {c} h => by simpa using h
  have lt : ∀ {i : Nat} {h : Heap}, atM z TI TO i1 i2 a b i h → ∀ c ∈ [z, TI, TO, i1, i2], ∃ o, h.get? c = some o ∧ ∀ v, o.data ≠ .cell v := fun {i h} st c hc => by
    obtain ⟨hz, hTI, ⟨x, y, hTO⟩, ⟨o1, e1, _, d1⟩, ⟨o2, e2, _, d2⟩⟩ := st
    rcases five hc with rfl | rfl | rfl | rfl | rfl
    · exact ⟨_, hz, fun v q => nomatch q⟩
    · exact ⟨_, hTI, fun v q => nomatch q⟩
    · exact ⟨_, hTO, fun v q => nomatch q⟩
    · exact ⟨o1, e1, fun v q => by rw [d1] at q; cases q⟩
    · exact ⟨o2, e2, fun v q => by rw [d2] at q; cases q⟩
  refine ⟨by simp, fun i h st => lt st, fun i h h' st k => ?_, fun X hP hw hK hc i pins s σ H E I hf st hg => ?_, fun X hP hw hK hc i pins s σ H E I hf st hg => ?_, fun A i s Q E st h => wpAny_pyIter_zip st.1 h⟩
  · obtain ⟨hz, hTI, ⟨x, y, hTO⟩, h1, h2⟩ := st
    exact ⟨k z (by simp) _ hz, k TI (by simp) _ hTI, ⟨x, y, k TO (by simp) _ hTO⟩, h1.at fun o q => k i1 (by simp) o q, h2.at fun o q => k i2 (by simp) o q⟩
  · subst hP hw hK
    have all := lt st
    obtain ⟨hz, hTI, ⟨x0, y0, hTO⟩, h1, h2⟩ := st
    obtain ⟨xs, ys, x, y, hqx, hqy, hx, hy⟩ := hg
    obtain ⟨its, rv, p, _⟩ := I.tuple hqx
    obtain ⟨its2, rv2, p2, _⟩ := I.list hqy
    obtain ⟨u, hu, ru⟩ := rv.get hx
    obtain ⟨u2, hu2, ru2⟩ := rv2.get hy
    refine next_step D (nxT (xs := its.toArray) D.l1i1) (nxL (xs := its2.toArray) D.l2i2) hz hTI hTO ⟨h1, p⟩ ⟨h2, p2.isList⟩ (x := u) (y := u2) (by simpa using hu) (by simpa using hu2) fun h' z' TO' q1 q2 hT hsz hk => ?_
    refine ⟨_, rfl, wpAny_letOwnedTupleGo_zip (s := { s with heap := h' }) z' fun h'' z'' sb => ?_⟩
    have hT2 : h''.get? s.heap.objs.size = some { cls := .type "tuple", data := .seq #[u, u2] } := (sb.2 _ (Nat.ne_of_gt (Heap.lt_size hz))).trans hT
    have new : ObjOk X.prog X.w (upd H s.heap.objs.size (.tup [x, y])) h'' s.heap.objs.size (.tup [x, y]) := ⟨by show 2 ≤ sizeLine; decide, [u, u2], .cons ru (.cons ru2 .nil), ⟨_, hT2, rfl, _, rfl⟩⟩
    have out : ∀ {c : Addr}, c ∉ [z, TI, TO, i1, i2] → c ≠ z ∧ c ≠ TO ∧ c ≠ i1 ∧ c ≠ i2 := fun {c} h => by
      simp only [List.mem_cons, List.not_mem_nil, or_false, not_or] at h
      exact ⟨h.1, h.2.2.1, h.2.2.2.1, h.2.2.2.2⟩
    have I1 : Inv X pins σ (upd H s.heap.objs.size (.tup [x, y])) { s with heap := h'' } := I.turnedNew (t' := s.toks) (ch := [z, TI, TO, i1, i2]) (fun c o hb q => by
      obtain ⟨c1, c2, c3, c4⟩ := out hb
      exact (sb.2 c c1).trans (hk c o c1 c2 c3 c4 q)) hf (Nat.le_refl _) new
    refine ⟨.ref s.heap.objs.size, _, I1, rfl, ⟨_, x, y, rfl, I.hok.fresh (Nat.le_refl _), rfl, fun l hl => by rw [I.tuple_inj hl hqx]; exact hx, fun l hl => by rw [I.list_inj hl hqy]; exact hy⟩, ⟨z'', (sb.2 _ D.TIz).trans (hk _ _ D.TIz D.TITO D.TIi1 D.TIi2 hTI), ⟨u, u2, (sb.2 _ D.TOz).trans TO'⟩, q1.1.at fun o q => (sb.2 _ D.i1z).trans q, q2.1.at fun o q => (sb.2 _ D.i2z).trans q⟩, fun c hcm => ?_⟩
    obtain ⟨o, eo, _⟩ := all c hcm
    rw [upd_ne (Nat.ne_of_lt (Heap.lt_size eo))]
    exact (hf c hcm).1
  · subst hP hw hK
    obtain ⟨hz, hTI, ⟨x0, y0, hTO⟩, h1, h2⟩ := st
    obtain ⟨xs, ys, hqx, hqy, hend⟩ := hg
    obtain ⟨its, rv, p, _⟩ := I.tuple hqx
    obtain ⟨its2, rv2, p2, _⟩ := I.list hqy
    have l1 := rv.length
    have l2 := rv2.length
    refine next_stop (I.ok.hd hc) D (nxT (xs := its.toArray) D.l1i1) (nxL (xs := its2.toArray) D.l2i2) hz hTI hTO ⟨h1, p⟩ ⟨h2, p2.isList⟩ (hend.imp (fun q => by simp; omega) fun q => by simp; omega) fun h' hk => ⟨rfl, I.turnedL (t' := s.toks) (ch := [z, TI, TO, i1, i2]) (fun c o hb q => ?_) hf⟩
    simp only [List.mem_cons, List.not_mem_nil, or_false, not_or] at hb
    exact hk c o hb.1 hb.2.2.1 hb.2.2.2.1 hb.2.2.2.2 q
def iM (K : PySem.W.Frag) (ta : TA) : TI := fun σ H R => ta σ H fun vs H1 => ∃ a b xs ys, vs = [.ref a, .ref b] ∧ SqT K H1 a xs ∧ SqL K H1 b ys ∧ R (ItM K a b) H1
theorem pi_zipM {X : Cx} {e e2 : Expr} {ta : TA} {p pos tpos : Pos} {elts : List Expr} {kk : Nat} (hg : Gl X "zip") (hm : X.mg "zip" = none) (ha : PA X [e, e2] ta)
    (hs : starEach [e, e2] X.env = (false, eval e X.env) :: starEach [e2] X.env := by rfl) (hpl : (backTo pos (starEach [e2] X.env)).any (·.1) = false := by rfl) :
    PI X (.Tuple elts kk tpos) (.Call (.Name "zip" p) [e, e2] [] pos) (iM X.K ta) := by
  refine ⟨fun pins s σ H R I h => ?_⟩
  refine Call_ (ld_blt I hg hm PyProof.Rows.boot_zip (PyProof.Rows.callWith_type1 (thn (ha.run pos pins s σ H _ I h) fun us s1 ⟨vs, H1, I1, r1, q1⟩ => ?_) hs hpl))
  obtain ⟨a, b, xs, ys, ex, hqx, hqy, q⟩ := q1
  subst ex
  cases r1 with
  | cons r rr =>
    cases rr with
    | cons r' rr =>
      cases rr
      cases r
      cases r'
      obtain ⟨its, rv, p1, _⟩ := I1.tuple hqx
      obtain ⟨its2, rv2, p2, _⟩ := I1.list hqy
      obtain ⟨o1, ho1, _⟩ := id p1
      refine call_zipM (show s1.heap.IsTuple a its.toArray from p1) p2.isList fun h' hz hTI hTO h1 h2 hk => wpAny_pyIter_zip hz ?_
      refine ⟨s1.heap.objs.size + 4, [s1.heap.objs.size + 4, s1.heap.objs.size + 2, s1.heap.objs.size + 3, s1.heap.objs.size, s1.heap.objs.size + 1], _, _, H1, rfl, I1.kept (t' := s1.toks) hk, turnM (PySem.W.ktu_apart s1.heap.objs.size a b (Heap.lt_size ho1) p2.lt), ⟨hz, hTI, ⟨_, _, hTO⟩, h1, h2⟩, fun c hcm => ?_, q⟩
      have hle : s1.heap.objs.size ≤ c := by
        simp only [List.mem_cons, List.not_mem_nil, or_false] at hcm
        rcases hcm with rfl | rfl | rfl | rfl | rfl <;> omega
      exact I1.fpOk hle (I1.hok.fresh hle)
end ZZ
namespace Z
open PySem L2
section
variable {K : PySem.W.Frag} {F : Addr → Prop} {H : Hp} {ds es : List D} {v u : V}
theorem iters_zipM (r : Rep K F H (.tup ds) v) (r' : Rep K F H (.kls es) u) : ∃ a b, v = .ref a ∧ u = .ref b ∧ (∃ xs, SqT K H a xs) ∧ (∃ ys, SqL K H b ys) ∧ Iters K F H (ZZ.ItM K a b) (zipL ds es) := by
  cases r with
  | @tup a vs _ h n r =>
    cases r' with
    | @kls b us _ h' n' r' =>
      refine ⟨a, b, rfl, rfl, ⟨vs, h⟩, ⟨us, h'⟩, fun H2 k => ?_⟩
      have h2 := sqT_later h n k
      have h2' := sqL_later h' n' k
      refine ⟨⟨vs, us, h2, h2', by simp only [zipL, List.length_map, List.length_zip, r.length, r'.length]; omega⟩, fun i d e => ?_⟩
      obtain ⟨x, x', ex, ex', rfl⟩ := zipL_get e
      obtain ⟨y, ey, ry⟩ := seq_later r k ex
      obtain ⟨y', ey', ry'⟩ := seq_later r' k ex'
      refine ⟨⟨vs, us, y, y', h2, h2', ey, ey'⟩, fun z H3 hz => ?_⟩
      obtain ⟨T, z1, z2, rfl, hT, rfl, hy, hy'⟩ := hz
      have e4 := hy vs h2
      rw [ey] at e4; cases e4
      have e5 := hy' us h2'
      rw [ey'] at e5; cases e5
      exact ⟨Same.new hT _, fun F' hF al => rep_pair al hT (ry F' hF) (ry' F' hF)⟩
end
def zipM : D → D → Option (List D)
  | .tup xs, .lst ys => some (zipL xs ys)
  | _, _ => none
def mzipTL (f g : M D) : M (List D) := mbind f fun x => mbind g fun y => mopt (zipM x y)
section
variable {X : Cx} {W : WX}
theorem si_zipM {f g : M D} {e e2 : Expr} {p pos tpos : Pos} {elts : List Expr} {kk : Nat} (hg : Gl X "zip") (hm : X.mg "zip" = none) (h1 : SE X W f e) (h2 : SE X W g e2)
    (hs : starEach [e, e2] X.env = (false, eval e X.env) :: starEach [e2] X.env := by rfl) (hs2 : starEach [e2] X.env = (false, eval e2 X.env) :: starEach [] X.env := by rfl) (hpl : (backTo pos (starEach [e2] X.env)).any (·.1) = false := by rfl) :
    SI X W (mzipTL f g) (.Tuple elts kk tpos) (.Call (.Name "zip" p) [e, e2] [] pos) := (ZZ.pi_zipM hg hm (pa_cons h1 (pa_cons h2 pa_nil hs2) hs) hs hpl).imp fun σ H Rk ⟨F0, ρ, R, o⟩ => by
  refine seqE R o fun x ρ1 v H1 R1 S1 r1 o1 => seqE R1 o1 fun y ρ2 u H2 R2 S2 r2 o2 => ?_
  obtain ⟨ds, e, q⟩ := Out.opt o2
  have r1' := S2.rep r1
  unfold zipM at e
  split at e
  · cases e
    obtain ⟨a, b, rfl, rfl, ⟨xs, hx⟩, ⟨ys, hy⟩, hi⟩ := iters_zipM r1' r2.lk
    exact ⟨a, b, xs, ys, rfl, hx, hy, q _ H2 R2 (S1.trans S2) hi⟩
  · cases e
end
end Z

/-! Z: an own exception over ValueError with super().__init__(place); self.place = place -/
namespace Z
open PySem PySem.Spec PyProof.Rows L2
/-- a class's first def -/
def initOf (s : Stmt) : Stmt := match s with
  | .ClassDef _ _ _ body _ _ _ _ _ _ _ => (body.find? fun t => match t with | .FunctionDef .. => true | _ => false).getD (.Pass ⟨0, 0, 0, 0⟩)
  | _ => .Pass ⟨0, 0, 0, 0⟩
def oexB (K : PySem.W.Frag) (C : Addr) : Bool := match K.lookup C with
  | some ⟨.type "type", _, .cls cd, sl⟩ => (match cd.mro, sl.toList with
    | .ref C' :: bm, [_, _, _, _, some (.builtin n), _] => C' == C && n == "ValueError.__new__" && !cd.hasDel && cd.hasDict && PySem.HandSPX.refsVE bm
    | _, _ => false)
  | _ => false
theorem oexB_of {K : PySem.W.Frag} {C : Addr} (q : oexB K C = true) : ∃ nm q N bs bm sn sub ab col dd k0 k1 k2 k3 k5, K.lookup C = some (excClassObj nm q C N bs bm true sn sub ab col dd k0 k1 k2 k3 k5 "ValueError.__new__") ∧ PySem.HandSPX.refsVE bm = true := by
  unfold oexB at q
  split at q
  · rename_i dd cd sl ho
    split at q
    · rename_i C' bm k0 k1 k2 k3 n k5 hm hs
      simp only [Bool.and_eq_true, beq_iff_eq, Bool.not_eq_true'] at q
      obtain ⟨⟨⟨⟨rfl, rfl⟩, hdel⟩, hdc⟩, ht⟩ := q
      obtain ⟨nm, bs, mro, ns, qn, hd, sn, sub, ab, col, del⟩ := cd
      dsimp only at hm hdel hdc
      subst hm hdel hdc
      have hsl : sl = #[k0, k1, k2, k3, some (.builtin "ValueError.__new__"), k5] := by
        obtain ⟨l⟩ := sl
        simp only at hs
        rw [hs]
      subst hsl
      exact ⟨nm, qn, ns, bs, bm, sn, sub, ab, col, dd, k0, k1, k2, k3, k5, ho, ht⟩
    · cases q
  · cases q

/-- the def of __init__, as the written part holds it -/
structure ICls (P : Program) (K : PySem.W.Frag) (mg : Str → Option Value) (x : Str) (ini : Stmt) where
  C : Addr
  fI : Addr
  fd : FuncData
  g : mg x = some (.ref C)
  q : oexB K C = true
  sa : PySem.W.findIn K (.ref C) "__setattr__" = some (some (.builtin "object.__setattr__"))
  k : PySem.W.keepIn K (.ref C) = true
  s : PySem.W.subIn K (.ref C) (.type "BaseException") = some true
  t : PySem.W.typeIn K (.ref C) = some (.type "type")
  v : PySem.W.subIn K (.ref C) (.type "ValueError") = some true
  se : PySem.W.mroIn K C (.ref C) = some true
  nf : PySem.W.findIn K (.ref C) "place" = some none
  iC : PySem.W.findIn K (.ref C) "__init__" = some (some (.ref fI))
  tI : PySem.W.typeIn K (.ref fI) = some (.type "function")
  sup : PySem.W.ks_superIn K C C "__init__" = some (some (.builtin "ValueError.__init__"))
  lk : ∃ (oc : Value) (od : Option Addr) (osl : Array (Option Value)) (qual : Str) (dV kV doc pm : Value) (an : Option Addr) (ct : Value) (cda cc : Addr), fd = PySem.W.ksFn "__init__" qual (defArgs ini) (defBody ini) (defScope ini) dV kV doc pm an (.ref cda) ct cc ∧
    K.lookup fI = some ⟨oc, od, .func fd, osl⟩ ∧ PySem.W.codeIn K (.ref cda) qual = true ∧
    (∃ (ccl : Value) (cdd : Option Addr) (vs : Array Value) (ccs : Array (Option Value)) (file : Str) (tf : Tok), K.lookup cda = some ⟨ccl, cdd, .fields vs, ccs⟩ ∧ vs[2]? = some (.str file tf) ∧ ((P.main.file : Str) == file) = true) ∧
    ∃ (cl : Value) (cld : Option Addr) (csl : Array (Option Value)), K.lookup cc = some ⟨cl, cld, .cell (some (.ref C)), csl⟩
  bd : Binds K fd ["self", "place"] []
  opq : PySem.W.nsIn K PySem.cStatics "thirdparty.any" = some none
  ns : mg "super" = none
  top : (P.main.scope.names.lookup ("super" : Str)).isSome = false
section
variable {P : Program} {w : World} {K : PySem.W.Frag} {mg : Str → Option Value} {base : Heap} {x : Str} {ini : Stmt}
theorem ICls.oex (T : ICls P K mg x ini) : OexC K T.C := ⟨oexB_of T.q, T.sa, T.s, T.t, T.k⟩
/-- what the __init__ does -/
def spI (K : PySem.W.Frag) (C : Addr) : Sp := fun vs H Q _ => ∃ (a : Addr) (y : V), vs = [.ref a, y] ∧ H a = some (exo a C none) ∧ ∀ dx, H dx = none → dx ≠ a → Q .non (upd (upd H dx (exd dx [("place", y)])) a (exo a C (some dx)))
structure IniForm (ini : Stmt) : Prop where
  body : ∃ p1 p2 p3 p4 p5 p6 p7 p8 p9 p10, defBody ini = [.Expr (.Call (.Attribute (.Call (.Name "super" p1) [] [] p2) "__init__" p3) [.Name "place" p4] [] p5) p6, .Assign [.Attribute (.Name "self" p7) "place" p8] (.Name "place" p9) p10] ∧ (p3.endLine == p5.line) = true
  head : ∃ ar, ((defArgs ini).posonlyargs ++ (defArgs ini).args).head? = some ar ∧ ar.arg = "self"
  kind : (defScope ini).kind = .function
  co : (defScope ini).isCoroutine = false
  gen : (defScope ini).isGenerator = false
  cell : ∀ y ∈ (defScope ini).names, y.2 ≠ .cell
  self : (defScope ini).names.lookup ("self" : Str) = some .local
  plc : (defScope ini).names.lookup ("place" : Str) = some .local
  sup : (defScope ini).names.lookup ("super" : Str) = some .globalImplicit
  cls : (defScope ini).names.lookup ("__class__" : Str) = some .free
def sc0 (ini : Stmt) : Scope := { defScope ini with names := [("self", .local), ("place", .local)] }
theorem sc0_fn {ini : Stmt} (B : IniForm ini) : FnScope ["self", "place"] ["self", "place"] (sc0 ini) := ⟨B.kind, B.co, B.gen, by decide, rfl, (fun x h => by
    rcases List.mem_cons.mp h with rfl | h
    · exact .inl rfl
    · rcases List.mem_cons.mp h with rfl | h
      · exact .inl rfl
      · cases h), fun y h e => by
    have h : y ∈ [(("self" : Str), NameKind.local), (("place" : Str), NameKind.local)] := h
    rcases List.mem_cons.mp h with rfl | h
    · cases e
    · rcases List.mem_cons.mp h with rfl | h
      · cases e
      · cases h⟩
/-- the bound __init__ is called -/
theorem call_mw {A : Around} {E : Value → Shared → Prop} {h : Heap} {g : Array GenState} {d : Drawn} {t : Nat} {os : OsState} {u a C t0 : Addr} {us : List Value} {Q : Value → Shared → Prop} (OX : OexC K C) (KX : K.In h)
    (hu : h.get? u = some (PySem.W.kxs_mw "ValueError.__init__" a)) (he : h.get? a = some (PySem.W.excObj C t0 none .none)) (hz : us.length ≤ sizeLine)
    (hq : ∀ h' t1, (∀ b o, b ≠ a → h.get? b = some o → h'.get? b = some o) → h'.get? a = some (PySem.W.excObj C t1 none .none) → Q .none ⟨h', g, d, t, os⟩) :
    wpAny (model P w) A (call (.ref u) us) Q E ⟨h, g, d, t, os⟩ := by
  obtain ⟨nm, q, N, bs, bm, sn, sub, ab, col, dd, k0, k1, k2, k3, k5, hC, hbm⟩ := OX.cls
  refine wpAny_call (codeAny_of_tree ?_)
  show wpAny _ A.in1 (callAny (.ref u) ⟨us, []⟩) _ _ _
  simp only [callAny]
  refine wpAny_bind (wpAny_load hu ?_)
  simp only [PySem.W.kxs_mw, show (Value.type "method-wrapper" == Value.type "method" || Value.type "method-wrapper" == Value.type "builtin_function_or_method" || Value.type "method-wrapper" == Value.type "method-wrapper") = true by decide, if_true]
  refine PySem.W.KFB.if_so (by decide) ?_
  refine wpAny_bind (PySem.W.check_bound_init F.excBase_ValueError.toExcCallFacts (KX _ _ hC) he rfl ?_)
  refine wpAny_bind (wpAny_pure (wpAny_pure ?_))
  refine ⟨plainId_quiet F.excBase_ValueError.init.plain _, codeAny_builtin F.excBase_ValueError.initEntry ?_⟩
  exact PySem.W.exc_init_tree (cls := .ref C) (t0 := t0) (dv := none) (c2 := .none) (c3 := .none) (b4 := .bool false) he hz fun h' k e' _ => hq h' _ k e'
theorem init_ok {CX : CXT} {k : Nat} (T : ICls P K mg x ini) (B : IniForm ini) : FnOk P w K mg base CX (k + 1) T.fI T.fd ["self", "place"] (spI K T.C) := by
  refine ⟨fun vs H Q E h => ?_, fun A outer s H args us vs Q E hr e0 hb r hsp => ?_⟩
  · obtain ⟨a, y, rfl, _⟩ := h
    rfl
  obtain ⟨a, y, rfl, ha, hq⟩ := hsp
  cases r with
  | @cons _ u0 _ ur ra rr =>
  cases rr with
  | @cons _ u _ _ ry rn =>
  cases rn
  obtain rfl : u0 = Value.ref a := ra
  have KX : K.In s.heap := e0.mod.kin.keeps fun b o e => (e0.bs b o e).1
  have lim : s.heap.NoLimit := e0.mod.nolimit.keeps fun b o e => (e0.bs b o e).1
  obtain ⟨oc, od, osl, qual, dV, kV, doc, pm, an, ct, cda, cc, hfd, lk, hcode, ⟨ccl, cdd, vs, ccs, file, tf, lkc, hv2, hfile⟩, cl, cld, csl, lkcell⟩ := T.lk
  obtain ⟨p1, p2, p3, p4, p5, p6, p7, p8, p9, p10, hbody, hpp⟩ := B.body
  obtain ⟨ar, har, hself⟩ := B.head
  rw [hfd] at lk hb
  refine ks_codeAny_call_defAt (fd := PySem.W.ksFn "__init__" qual (defArgs ini) (defBody ini) (defScope ini) dV kV doc pm an (.ref cda) ct cc) (body := defBody ini) (binds := (["self", "place"] : List Str).zip [Value.ref a, u]) hr.depth (KX _ _ lk) rfl lim (PySem.W.codeRec_of KX hcode) rfl hb B.cell ?_ (fun h₁ hns hk₁ => ?_) B.co B.gen B.kind
  · intro z hz
    rcases List.mem_cons.mp hz with rfl | hz
    · exact B.self
    · rcases List.mem_cons.mp hz with rfl | hz
      · exact B.plc
      · cases hz
  have hself0 : ∀ {y : Str} {v : Value}, ((["self", "place"] : List Str).zip [Value.ref a, u]).reverse.lookup y = some v → True := fun _ => trivial
  have hms : ((["self", "place"] : List Str).zip [Value.ref a, u]).reverse.lookup ("self" : Str) = some (.ref a) := rfl
  have hmp : ((["self", "place"] : List Str).zip [Value.ref a, u]).reverse.lookup ("place" : Str) = some u := rfl
  have fm : (fun y => ((["self", "place"] : List Str).zip [Value.ref a, u]).reverse.lookup y) = bindL (envOfC "" (sc0 ini) s.heap.objs.size T.fI .none).kindOf ((["self", "place"] : List Str).zip [Value.ref a, u]) fun _ => none := by
    funext y
    show List.lookup y [("place", u), ("self", Value.ref a)] = bindL _ [("self", Value.ref a), ("place", u)] _ y
    have k1 : (envOfC "" (sc0 ini) s.heap.objs.size T.fI .none).kindOf "self" = some .local := rfl
    have k2 : (envOfC "" (sc0 ini) s.heap.objs.size T.fI .none).kindOf "place" = some .local := rfl
    simp only [bindL, k1, k2, List.lookup]
    by_cases e1 : y = "place"
    · subst e1; rfl
    · have e1' : (y == ("place" : Str)) = false := by simpa using e1
      by_cases e2 : y = "self"
      · subst e2; rfl
      · have e2' : (y == ("self" : Str)) = false := by simpa using e2
        simp [e1, e2, e1', e2']
  have xin : InCallC s s.heap.objs.size (bindL (envOfC "" (sc0 ini) s.heap.objs.size T.fI .none).kindOf ((["self", "place"] : List Str).zip [Value.ref a, u]) fun _ => none) (cellsFrom (s.heap.objs.size + 1) (sc0 ini).names []) (bindC (envOfC "" (sc0 ini) s.heap.objs.size T.fI .none).kindOf ((["self", "place"] : List Str).zip [Value.ref a, u]) fun _ => none) { s with heap := h₁, toks := s.toks + ((["self", "place"] : List Str).zip [Value.ref a, u]).length } := by
    refine ⟨⟨⟨_, _, rfl⟩, by rw [← fm]; exact hns, hk₁, Nat.le_refl _⟩, fun n c h => ?_, ?_, fun n c h => ?_⟩
    · have h : ([] : List (Str × Addr)).lookup n = some c := h
      cases h
    · exact List.Pairwise.nil
    · have h : (n, c) ∈ ([] : List (Str × Addr)) := h
      cases h
  have I1 : Inv (cxOf CX P w K mg base ["self", "place"] "" (sc0 ini) T.fI .none A outer s H E) [] (L2.start ["self", "place"] [.ref a, y]) H { s with heap := h₁, toks := s.toks + ((["self", "place"] : List Str).zip [Value.ref a, u]).length } :=
    inv_start (sc0_fn B) hr.hd e0 rfl (.cons rfl (.cons ry .nil)) xin
  obtain ⟨cdC, hclC, hcdC⟩ : ∃ cd, PySem.W.clsIn K T.C = some cd ∧ PySem.W.alongIn K "__init__" ((cd.mro.dropWhile (· != .ref T.C)).drop 1) = some (some (.builtin "ValueError.__init__")) := by
    have z := T.sup
    unfold PySem.W.ks_superIn at z
    cases hc : PySem.W.clsIn K T.C with
    | none => rw [hc] at z; cases z
    | some cd => rw [hc] at z; exact ⟨cd, rfl, z⟩
  obtain ⟨t0, hea⟩ := exo_at I1.hok ha
  have hlt : a < s.heap.objs.size := by
    obtain ⟨t9, z⟩ := exo_at e0.hok ha
    exact Heap.lt_size z
  have hneL : s.heap.objs.size ≠ a := Nat.ne_of_gt hlt
  obtain ⟨mb, hb1, hb2⟩ := e0.mod.blt
  obtain ⟨h0, g, d, t, os⟩ := s
  have kb : ∀ b o, base.get? b = some o → h₁.get? b = some o := fun b o e => hk₁ b o (e0.bs b o e).1
  have KX1 : K.In h₁ := e0.mod.kin.keeps kb
  have OX := T.oex
  have J1 : PySem.W.InstAt h₁ a ({ cls := .ref T.C, dict := none, data := .fields #[.ref t0, .none, .none, .none, .bool false, .none] } : Obj) T.C none := ⟨hea, rfl, rfl, trivial⟩
  obtain ⟨oD, hD1, hD2⟩ : ∃ oD, h₁.get? T.C = some oD ∧ oD.data = .cls cdC := by
    have hD := hclC
    unfold PySem.W.clsIn at hD
    split at hD
    · rename_i c d cd' sl ho
      cases hD
      exact ⟨_, KX1 _ _ ho, rfl⟩
    · cases hD
  have hk : (PySem.W.ksEnv qual (defScope ini) h0.objs.size T.fI (.ref cda) cc).scope.kind = .function := B.kind
  have hks : (PySem.W.ksEnv qual (defScope ini) h0.objs.size T.fI (.ref cda) cc).kindOf "super" = some .globalImplicit := B.sup
  have hkc : (PySem.W.ksEnv qual (defScope ini) h0.objs.size T.fI (.ref cda) cc).kindOf "__class__" = some .free := B.cls
  have hkl : (PySem.W.ksEnv qual (defScope ini) h0.objs.size T.fI (.ref cda) cc).kindOf "self" = some .local := B.self
  have hkp : (PySem.W.ksEnv qual (defScope ini) h0.objs.size T.fI (.ref cda) cc).kindOf "place" = some .local := B.plc
  show PySem.wpAt (model P w) (A.deeper (PySem.W.ksEnv qual (defScope ini) h0.objs.size T.fI (.ref cda) cc)) (.func (defBody ini) (PySem.W.ksEnv qual (defScope ini) h0.objs.size T.fI (.ref cda) cc)) (execs (defBody ini) (PySem.W.ksEnv qual (defScope ini) h0.objs.size T.fI (.ref cda) cc)) _ _ _
  rw [hbody]
  have hcall : eval (.Call (.Attribute (.Call (.Name "super" p1) [] [] p2) "__init__" p3) [.Name "place" p4] [] p5) (PySem.W.ksEnv qual (defScope ini) h0.objs.size T.fI (.ref cda) cc) = (do
      let ov ← attributeBase (.Call (.Name "super" p1) [] [] p2) "__init__" (PySem.W.ksEnv qual (defScope ini) h0.objs.size T.fI (.ref cda) cc) (eval (.Call (.Name "super" p1) [] [] p2) (PySem.W.ksEnv qual (defScope ini) h0.objs.size T.fI (.ref cda) cc))
      standAt p3.atName
      let (f, first) ← holding [ov] (getMethod ov "__init__" (do return (← importBound (.Call (.Name "super" p1) [] [] p2) (PySem.W.ksEnv qual (defScope ini) h0.objs.size T.fI (.ref cda) cc)).getD true))
      callWith p5 f first (backTo p5 (starEach [.Name "place" p4] (PySem.W.ksEnv qual (defScope ini) h0.objs.size T.fI (.ref cda) cc))) []) := by
    show (do
      let ov ← attributeBase (.Call (.Name "super" p1) [] [] p2) "__init__" (PySem.W.ksEnv qual (defScope ini) h0.objs.size T.fI (.ref cda) cc) (eval (.Call (.Name "super" p1) [] [] p2) (PySem.W.ksEnv qual (defScope ini) h0.objs.size T.fI (.ref cda) cc))
      standAt p3.atName
      let (f, first) ← holding [ov] (getMethod ov "__init__" (do return (← importBound (.Call (.Name "super" p1) [] [] p2) (PySem.W.ksEnv qual (defScope ini) h0.objs.size T.fI (.ref cda) cc)).getD true))
      let callPos ← (if !true || p3.endLine == p5.line then (pure p5 : Sem Pos) else _)
      callWith callPos f first (backTo p5 (starEach [.Name "place" p4] (PySem.W.ksEnv qual (defScope ini) h0.objs.size T.fI (.ref cda) cc))) []) = _
    rw [hpp]
    rfl
  refine ks_wpAt_execs_cons (ks_wpAt_Expr_any (ks_wpAt_MethodCall (he := hcall) ?_) (by unfold interactive; rw [hk]; rfl))
  refine ks_wpAt_super_base (env := PySem.W.ksEnv qual (defScope ini) h0.objs.size T.fI (.ref cda) cc) hks hkc (by decide) rfl (KX1 _ _ lk) rfl har rfl (KX1 _ _ lkc) rfl hv2 hfile T.top ?_
  refine PySem.W.ks_loadName_global hk hks (Calls.loadGlobal_builtin (env := PySem.W.ksEnv qual (defScope ini) h0.objs.size T.fI (.ref cda) cc) (e0.mod.glob.keeps kb) T.ns (hb1.keeps kb) ((hb2 "super" (by decide)).trans (by decide +kernel)) ⟨rfl, ?_⟩)
  refine wpAny_loadName_free hk hkc rfl ⟨_, KX1 _ _ lkcell, rfl⟩ ?_
  rw [hself]
  refine wpAny_loadName_local hk hkl hns hms ?_
  refine ks_wpAny_isType_cls hD1 hD2 ⟨rfl, ?_⟩
  refine ks_wpAny_call_super hD1 hD2 J1.at_ J1.cls (fun c e => nomatch e) (PySem.W.looks_mroIn KX1 T.se) (fun h2 e2 k2 => ?_)
  have KX2 : K.In h2 := KX1.keeps k2
  refine PySem.W.kxs_getMethod PySem.W.kxs_ValueError e2 (PySem.W.looks_opaque KX2 T.opq) (l₀ := cdC.mro) ?_ rfl KX2 hcdC ?_ (PySem.W.ks_ne KX1 J1 hclC) (by decide) ?_
  · exact fun A Q E s k q => wpAny_bind ((PySem.W.looks_clsIn KX2 hclC) A _ E s k (wpAny_pure q))
  · have J2 : PySem.W.InstAt h2 a ({ cls := .ref T.C, dict := none, data := .fields #[.ref t0, .none, .none, .none, .bool false, .none] } : Obj) T.C none := ⟨k2 _ _ hea, rfl, rfl, trivial⟩
    exact J2.type.andThen (PySem.W.looks_subIn KX2 T.v)
  have hmw : (h2.push (PySem.W.kxs_mw "ValueError.__init__" a)).get? h2.objs.size = some (PySem.W.kxs_mw "ValueError.__init__" a) := Heap.get?_push_at rfl rfl
  have k3 : ∀ b o, h₁.get? b = some o → (h2.push (PySem.W.kxs_mw "ValueError.__init__" a)).get? b = some o := fun b o e => Heap.get?_push_of_some _ (k2 b o e)
  refine PySem.W.kxs_callWith (i := "ValueError.__init__") (x := a) (by rfl) ?_
  refine Calls.evalArgs_plain ?_
  refine Calls.spliced_cons (wpAny_Name (wpAny_loadName_local hk hkp (hns.keeps k3) hmp ?_))
  refine Calls.spliced_nil ⟨hmw, ?_⟩
  refine call_mw OX (KX1.keeps k3) hmw (k3 _ _ hea) (by show 1 ≤ sizeLine; rw [sizeLine_eq]; omega) (fun h4 t4 k4 e4 => ?_)
  have I4 : Inv (cxOf CX P w K mg base ["self", "place"] "" (sc0 ini) T.fI .none A outer ⟨h0, g, d, t, os⟩ H E) [] (L2.start ["self", "place"] [.ref a, y]) H ⟨h4, g, d, t + 2 + 1, os⟩ := by
    have J := (I1.kept (t' := t + 2 + 1) k3).write (t' := t + 2 + 1) (x := a) (e := a) (o := exo a T.C none) (by rw [ha]; exact True.intro) (.inl rfl) k4 ⟨_, e4⟩ (exo_ok e4)
    have eu : upd H a (exo a T.C none) = H := by
      funext b
      by_cases hb : b = a
      · rw [hb, upd_same, ha]
      · rw [upd_ne hb]
    rw [eu] at J
    exact J
  have hns4 : h4.Ns h0.objs.size (fun x => ((["self", "place"] : List Str).zip [Value.ref a, u]).reverse.lookup x) := hns.at fun o e => k4 _ _ hneL (k3 _ _ e)
  refine wpAt_of_wpAny ?_
  refine wpAny_execs_cons (plainObj_wpAny_Assign_Attribute ?_)
  refine wpAny_Name (wpAny_loadName_local hk hkp hns4 hmp ?_)
  refine wpAny_Name (wpAny_loadName_local hk hkl hns4 hms ?_)
  refine ost_new OX I4 ha T.nf ry (fun dx s' hdx hne J => ?_)
  refine wpAny_execs_nil ?_
  exact ⟨.non, _, J.os, J.bare, J.base, J.hok, rfl, hq dx hdx hne⟩
end
end Z

/-! Z: a try with several clauses, named or not -/
namespace Z
open PySem PySem.Spec PyProof.Rows L2
/-! ### an exception's own dict, put aside while a suite runs -/
abbrev XD := Option (Addr × List (Str × V))
/-- the dict's object says fs -/
def XdO (dd : Addr) (od : Obj) (fs : List (Str × V)) : Prop := ∃ mA : Str → Option Value, (∀ h : Heap, h.get? dd = some od → h.Ns1 dd mA) ∧ (∀ n, PySem.W.lookIn n od = some (mA n)) ∧ ∀ f, RelO (fs.lookup f) (mA f)
def PinD (d : XD) (pn : List (Addr × Obj)) : Prop := ∀ dd fs, d = some (dd, fs) → ∃ od, (dd, od) ∈ pn ∧ XdO dd od fs
theorem pinD_none {pn : List (Addr × Obj)} : PinD none pn := fun _ _ e => by cases e
theorem hide {X : Cx} {pins : List (Addr × Obj)} {σ : L2.St} {H : Hp} {s : Shared} {a dd : Addr} {q : Addr × Obj} {fs : List (Str × V)} (S : Inv (X.suite a (q :: (X.pn ++ pins))) [] σ H s) (J : Inv X pins σ H s) (hx : H dd = some (.xd fs)) :
    ∃ od, XdO dd od fs ∧ Inv (X.suite a (q :: (dd, od) :: (X.pn ++ pins))) [] σ (L2.del H dd) s := by
  have hx' : ObjOk X.prog X.w H s.heap dd (.xd fs) := J.hok dd _ hx
  obtain ⟨mA, hns, hr⟩ := hx'
  obtain ⟨od, ho, hl⟩ := lookIn_ns hns
  have nL : dd ≠ X.env.locals := fun z => by rw [z, J.free] at hx; cases hx
  have nF : dd ∉ X.fs := fun hm => by
    have z := J.base.free dd _ (J.ok.funs.mem hm).2.choose_spec.1 (J.ok.frf dd hm) (fun e => J.ok.exfs dd e hm)
    rw [z] at hx
    cases hx
  have nc : ∀ v, od.data ≠ .cell v := fun v z => by
    have h0 := hl "x"
    unfold PySem.W.lookIn at h0
    rw [z] at h0
    cases h0
  have ne : ∀ {b : Addr} {o : HO}, H b = some o → (∀ fs, o ≠ .xd fs) → b ≠ dd := fun {b o} e n z => by
    rw [z, hx] at e
    exact n fs (Option.some.inj e).symm
  have nil : ∀ {b : Addr}, H b = none → L2.del H dd b = none := fun {b} e => by
    by_cases hb : b = dd
    · rw [hb]; exact L2.del_same
    · rw [L2.del_ne hb]; exact e
  refine ⟨od, ⟨mA, fun h e => hns.at fun o y => by rw [ho] at y; cases y; exact e, hl, hr⟩, ?_⟩
  refine ⟨J.ok.suite _ _, S.os, S.bare, ⟨S.base.keep, S.base.slot, fun b o e n x => nil (S.base.free b o e n x), S.base.there, fun b xs e => ?_, fun b o u e => ?_, fun b ps e => ?_⟩, S.loc, S.cell, nil S.free, fun x c e => nil (S.freeC x c e), fun p hp => ?_, fun b o e => ?_, S.len⟩
  · have z := S.base.tups b xs e
    rw [L2.del_ne (ne z fun _ y => by cases y)]; exact z
  · have z := S.base.frzs b o u e
    rw [L2.del_ne (ne z fun _ y => by cases y)]; exact z
  · obtain ⟨more, z⟩ := S.base.tbls b ps e
    exact ⟨more, by rw [L2.del_ne (ne z fun _ y => by cases y)]; exact z⟩
  · have hp : p ∈ q :: (dd, od) :: (X.pn ++ pins) := by rw [List.append_nil] at hp; exact hp
    have old : ∀ {p : Addr × Obj}, p ∈ q :: (X.pn ++ pins) → s.heap.get? p.1 = some p.2 ∧ L2.del H dd p.1 = none ∧ p.1 ≠ X.env.locals ∧ p.1 ∉ X.fs ∧ ∀ v, p.2.data ≠ .cell v := fun {p} hp => by
      obtain ⟨h1, h2, h3, h4, h5⟩ := S.pin p (List.mem_append_left _ hp)
      exact ⟨h1, nil h2, h3, h4, h5⟩
    rcases List.mem_cons.mp hp with rfl | hp
    · exact old List.mem_cons_self
    · rcases List.mem_cons.mp hp with rfl | hp
      · exact ⟨ho, L2.del_same, nL, nF, nc⟩
      · exact old (List.mem_cons_of_mem _ hp)
  · have hb : b ≠ dd := fun z => by rw [z, L2.del_same] at e; cases e
    rw [L2.del_ne hb] at e
    exact (S.hok b o e).stay (fun c v _ y => y) (fun c hc => by rw [L2.del_ne (ne hc fun _ y => by cases y)]; exact hc) (fun c xs hc => by rw [L2.del_ne (ne hc fun _ y => by cases y)]; exact hc)
theorem unhide {X : Cx} {pins : List (Addr × Obj)} {σ σ' : L2.St} {H H' : Hp} {s s' : Shared} {a dd : Addr} {q : Addr × Obj} {od : Obj} {fs : List (Str × V)} (I : Inv (X.suite a (q :: (dd, od) :: (X.pn ++ pins))) [] σ' H' s') (J : Inv X pins σ H s) (hx : H dd = some (.xd fs)) (xo : XdO dd od fs) :
    H' dd = none ∧ Inv X pins σ' (upd H' dd (.xd fs)) s' := by
  obtain ⟨p1, p2, p3, p4, p5⟩ := I.pin (dd, od) (List.mem_append_left _ (List.mem_cons_of_mem _ List.mem_cons_self))
  have p2 : H' dd = none := p2
  obtain ⟨mA, hn, _, hr⟩ := xo
  have ne : ∀ {b : Addr}, H b = none → b ≠ dd := fun {b} e z => by rw [z, hx] at e; cases e
  have nd : ∀ {b : Addr} {o : HO}, H' b = some o → b ≠ dd := fun {b o} e z => by rw [z, p2] at e; cases e
  refine ⟨p2, J.ok, I.os, I.bare, ⟨I.base.keep, I.base.slot, fun b o e n x => ?_, I.base.there, fun b xs e => ?_, fun b o u e => ?_, fun b ps e => ?_⟩, I.loc, I.cell, ?_, fun x c e => ?_, fun p hp => ?_, fun b o e => ?_, I.len⟩
  · rw [upd_ne (ne (J.base.free b o e n x))]
    exact I.base.free b o e n x
  · have z := I.base.tups b xs e
    rw [upd_ne (nd z)]; exact z
  · have z := I.base.frzs b o u e
    rw [upd_ne (nd z)]; exact z
  · obtain ⟨more, z⟩ := I.base.tbls b ps e
    exact ⟨more, by rw [upd_ne (nd z)]; exact z⟩
  · rw [upd_ne (ne J.free)]; exact I.free
  · rw [upd_ne (ne (J.freeC x c e))]; exact I.freeC x c e
  · obtain ⟨h1, h2, h3, h4, h5⟩ := I.pin p (List.mem_append_left _ (List.mem_cons_of_mem _ (List.mem_cons_of_mem _ hp)))
    exact ⟨h1, by rw [upd_ne (ne (J.pin p hp).2.1)]; exact h2, h3, h4, h5⟩
  · by_cases hb : b = dd
    · subst hb
      rw [upd_same] at e
      cases e
      exact ⟨mA, hn _ p1, hr⟩
    · rw [upd_ne hb] at e
      exact (I.hok b o e).stay (fun c v _ y => y) (fun c hc => by rw [upd_ne (nd hc)]; exact hc) (fun c xs hc => by rw [upd_ne (nd hc)]; exact hc)
/-- a clause: its class, the slot that its name has, what its suite does -/
structure Clause where
  c : Value
  slot : Option Nat
  ts : Addr → Value → XD → TS
/-- the dict back in its place -/
def retrack (D : Ends) (dd : Addr) (fs : List (Str × V)) : Ends := { nx := fun σ H => H dd = none → D.nx σ (upd H dd (.xd fs)), rt := fun v H => H dd = none → D.rt v (upd H dd (.xd fs)), bk := fun σ H => H dd = none → D.bk σ (upd H dd (.xd fs)), ct := fun σ H => H dd = none → D.ct σ (upd H dd (.xd fs)) }
/-- where the clause's name goes again -/
def offEnds (D : Ends) : Option Nat → Ends
  | none => D
  | some i => { nx := fun σ H => D.nx (σ.set i none) H, rt := D.rt, bk := fun σ H => D.bk (σ.set i none) H, ct := fun σ H => D.ct (σ.set i none) H }
def onSt (σ : L2.St) (a : Addr) : Option Nat → L2.St
  | none => σ
  | some i => σ.set i (some (.ref a))
/-- what is asked of an exception of the body, clause by clause -/
def wCls (K : PySem.W.Frag) (Wout : WX) (D : Ends) : List Clause → WX
  | [] => Wout
  | k :: r => fun cls d σ H => ∃ b, PySem.W.exmOne K cls k.c = some b ∧ (b = true → ∀ a, H a = none → match d with
      | none => k.ts a cls none (offEnds D k.slot) (onSt σ a k.slot) H
      | some dd => ∃ fs, H dd = some (.xd fs) ∧ k.ts a cls (some (dd, fs)) (offEnds (retrack D dd fs) k.slot) (onSt σ a k.slot) (L2.del H dd)) ∧ (b = false → wCls K Wout D r cls d σ H)
inductive ClsOk (X : Cx) : List ExceptHandler → List Clause → Prop
  | nil : ClsOk X [] []
  | plain {x : Str} {c : Value} {ts : Addr → Value → XD → TS} {b₀ : Stmt} {suite : List Stmt} {np ep : Pos} {hds : List ExceptHandler} {l : List Clause} (nm : Names X x c)
      (su : ∀ (a : Addr) (oe : Obj) (cls : Value) (d : XD) (pn : List (Addr × Obj)), L2N.Zn cls (d.map (·.1)) oe → (∃ vs, oe.data = .fields vs) → PinD d pn → PSs (X.suite a ((a, oe) :: pn)) (b₀ :: suite) (ts a cls d)) (r : ClsOk X hds l) :
      ClsOk X (.ExceptHandler (some (.Name x np)) none (b₀ :: suite) ep :: hds) (⟨c, none, ts⟩ :: l)
  | named {x n : Str} {i : Nat} {c : Value} {ts : Addr → Value → XD → TS} {b₀ : Stmt} {suite : List Stmt} {np ep : Pos} {hds : List ExceptHandler} {l : List Clause} (nm : Names X x c)
      (nd : X.N.Nodup) (at_ : X.N[i]? = some n) (lc : X.env.kindOf n = some .local)
      (su : ∀ (a : Addr) (oe : Obj) (cls : Value) (d : XD) (pn : List (Addr × Obj)), L2N.Zn cls (d.map (·.1)) oe → (∃ vs, oe.data = .fields vs) → PinD d pn → PSs (X.suite a ((a, oe) :: pn)) (b₀ :: suite) (ts a cls d)) (r : ClsOk X hds l) :
      ClsOk X (.ExceptHandler (some (.Name x np)) (some n) (b₀ :: suite) ep :: hds) (⟨c, some i, ts⟩ :: l)
section
variable {X : Cx} {body : List Stmt} {h₀ : ExceptHandler} {hds : List ExceptHandler} {l : List Clause} {pos : Pos} {tb : WX → TS} {Wout : WX}
theorem ps_try_cls (st : X.stack = X.env :: X.outer) (fr : X.env.frame = some X.env.locals) (tk : L2N.Takes X Wout)
    (bd : ∀ (W : WX) (pn : List (Addr × Obj)) (xe : Value → Shared → Prop), L2N.Takes (X.tr pn xe) W → PassesOwn (model X.prog X.w) X.A X.env xe → PSs (X.tr pn xe) body (tb W))
    (cl : ClsOk X (h₀ :: hds) l) : PS X (.Try body (h₀ :: hds) [] [] pos) (fun D σ H => tb (wCls X.K Wout D l) D σ H) := by
  constructor
  intro pins s σ H D I h
  have ok := I.ok
  have run := (bd (wCls X.K Wout D l) (X.pn ++ pins) (fun e t1 => wpAny (model X.prog X.w) X.A (noteFrame e X.env) (fun _ t2 => wpAny (model X.prog X.w) X.A (setFlight e none) (fun _ t3 => wpAny (model X.prog X.w) X.A (handleBy e X.env (h₀ :: hds)) (SP X pins D) X.xe t3) X.xe t2) X.xe t1) ?_ PassesOwn.looking).run [] s σ H D (I.toTry _) h
  · refine wpAny_Try_except (wpAny_mono run (fun f t q => ?_) fun _ _ q => q)
    cases f with
    | next => obtain ⟨_, _, J, q⟩ := q; exact wpAny_execs_nil ⟨_, _, J.ofTry ok, q⟩
    | brk => obtain ⟨_, _, J, q⟩ := q; exact ⟨_, _, J.ofTry ok, q⟩
    | cont => obtain ⟨_, _, J, q⟩ := q; exact ⟨_, _, J.ofTry ok, q⟩
    | ret u => obtain ⟨_, _, _, J, r, q⟩ := q; exact ⟨_, _, _, J.ofTry ok, r, q⟩
  · rintro u t ⟨a, B, sI, pins', σ1, H1, cls, d, rfl, Jt, nb, up, sky, na, os, ag, w⟩
    have J : Inv X pins σ1 H1 sI := Jt.ofTry ok
    rw [show (X.tr (X.pn ++ pins) _).stack = X.env :: X.outer from st] at sky
    refine L2N.Sky.land L2N.Zn.steady (by rw [ok.frames, st]) fr sky fun g fl up1 => ?_
    have Jg : Inv X pins σ1 H1 { t with heap := g } := J.landed nb fl.1 (up.trans up1) os ag
    obtain ⟨oe, vs, he, hz, hd⟩ := fl.there
    have free : a ∉ frs (X.env :: X.outer) := fun hm => by
      obtain ⟨_, o, e, no⟩ := fl.2.2.1.mem hm
      rw [he] at e
      cases e
      exact no _ hd
    have nL : a ≠ X.env.locals := fun z => free (List.mem_filterMap.mpr ⟨X.env, List.mem_cons_self, by rw [fr, z]⟩)
    have nF : a ∉ X.fs := fun hm => by
      obtain ⟨e, m, q⟩ := List.mem_filterMap.mp hm
      exact free (List.mem_filterMap.mpr ⟨e, List.mem_cons_of_mem _ m, q⟩)
    have Sg := Jg.suite he hd na nL nF
    have lk : PySem.W.Looks (model X.prog X.w) g (typeOf (.ref a)) cls := fun A Q E s k q => wpAny_typeOf_ref (k _ _ he) (by rw [hz.1]; exact q)
    have ask : ∀ {x : Str} {c : Value} {np : Pos} {Q E : Value → Shared → Prop}, Names X x c → Q c { t with heap := g } → wpAny (model X.prog X.w) (X.A.mark (some (.ref a))) (eval (.Name x np) X.env) Q E { t with heap := g } := by
      rintro x c np Q E ⟨n1, n2, n3 | ⟨n3, n4, n5⟩⟩ q
      · exact ld_glob (X := X.suite a ((a, oe) :: (X.pn ++ pins))) Sg n1 n3 q n2
      · exact ld_blt (X := X.suite a ((a, oe) :: (X.pn ++ pins))) Sg n1 n3 n4 q n5 n2
    have again : ∀ {Q : Unit → Shared → Prop} {E : Value → Shared → Prop}, (∀ (g4 : Heap) (o4 : Obj), Inv (X.suite a ((a, o4) :: (X.pn ++ pins))) [] σ1 H1 { t with heap := g4 } → L2N.Zn cls d o4 → (∃ vs, o4.data = .fields vs) → Q () { t with heap := g4 }) →
        wpAny (model X.prog X.w) (X.A.mark (some (.ref a))) (setFlight (.ref a) none) Q E { t with heap := g } := fun k =>
      HandSPX.lands_againZ fl fun g4 fl4 up4 => by
        have J4 : Inv X pins σ1 H1 { t with heap := g4 } := J.landed nb fl4.1 ((up.trans up1).trans up4) os ag
        obtain ⟨o4, v4, e4, z4, d4⟩ := fl4.there
        exact k g4 o4 (J4.suite e4 d4 na nL nF) z4 ⟨_, d4⟩
    suffices go : ∀ {hs : List ExceptHandler} {k : List Clause}, ClsOk X hs k → wCls X.K Wout D k cls d σ1 H1 → wpAny (model X.prog X.w) X.A (handleBy (.ref a) X.env hs) (SP X pins D) X.xe { t with heap := g } from go cl w
    intro hs k ck
    induction ck with
    | nil =>
      intro w
      obtain ⟨_, _, _, o5, vs5, T, oT, ts5, he5, hz5, hd5, h5, _⟩ := id fl
      refine wpAny_handleBy_nil ?_
      unfold PySem.passOn
      refine wpAny_bind (wpAny_field he5 hd5 h5 ?_)
      rw [if_neg (show ¬ ((Value.ref T == Value.none) = true) from by simp)]
      have out : wpAny (model X.prog X.w) X.A (setFlight (.ref a) X.env.frame) (fun _ t4 => wpAny (model X.prog X.w) X.A (throw (.ref a) : Sem PySem.Flow) (SP X pins D) X.xe t4) X.xe { t with heap := g } := by
        rw [fr]
        exact HandSPX.setFlight_upZ fl fun g4 hh up4 => wpAny_throw (tk _ _ ⟨a, B, sI, pins, σ1, H1, cls, d, rfl, J, nb, (up.trans up1).trans up4, .inr (.inr (by rw [st]; exact hh)), na, os, ag, w⟩)
      first
        | exact wpAny_bind (wpAny_pure (wpAny_bind out))
        | exact wpAny_bind out
    | plain nm su r ih =>
      rintro ⟨b, hb, yes, no⟩
      refine wpAny_handleBy_cons (codeAny_handlers_test (ask nm ((PySem.W.exm_one (M := model X.prog X.w) Jg.kIn lk hb).here ?_))) (by intro q; cases q)
      cases b with
      | false => exact ih (no rfl)
      | true =>
        refine codeAny_handlers_suite (again fun g4 o4 S4 z4 d4 => ?_)
        cases d with
        | none =>
          refine wpAny_mono ((su a o4 cls none (X.pn ++ pins) z4 d4 pinD_none).run [] _ _ H1 _ S4 (yes rfl a na)) (fun f t6 q => ?_) fun _ _ z => z.elim
          cases f with
          | next => obtain ⟨_, _, S6, q⟩ := q; exact ⟨_, _, S6.unsuite ok, q⟩
          | brk => obtain ⟨_, _, S6, q⟩ := q; exact ⟨_, _, S6.unsuite ok, q⟩
          | cont => obtain ⟨_, _, S6, q⟩ := q; exact ⟨_, _, S6.unsuite ok, q⟩
          | ret u => obtain ⟨_, _, _, S6, r6, q⟩ := q; exact ⟨_, _, _, S6.unsuite ok, r6, q⟩
        | some dd =>
          obtain ⟨fs, hx, w2⟩ := yes rfl a na
          have J4 := S4.unsuite ok
          obtain ⟨od, xo, S5⟩ := hide S4 J4 hx
          refine wpAny_mono ((su a o4 cls (some (dd, fs)) ((dd, od) :: (X.pn ++ pins)) z4 d4 (fun _ _ e => by cases e; exact ⟨od, List.mem_cons_self, xo⟩)).run [] _ _ _ _ S5 w2) (fun f t6 q => ?_) fun _ _ z => z.elim
          cases f with
          | next => obtain ⟨_, _, S6, q⟩ := q; obtain ⟨n6, J6⟩ := unhide S6 J4 hx xo; exact ⟨_, _, J6, q n6⟩
          | brk => obtain ⟨_, _, S6, q⟩ := q; obtain ⟨n6, J6⟩ := unhide S6 J4 hx xo; exact ⟨_, _, J6, q n6⟩
          | cont => obtain ⟨_, _, S6, q⟩ := q; obtain ⟨n6, J6⟩ := unhide S6 J4 hx xo; exact ⟨_, _, J6, q n6⟩
          | ret u => obtain ⟨_, _, _, S6, r6, q⟩ := q; obtain ⟨n6, J6⟩ := unhide S6 J4 hx xo; exact ⟨_, _, _, J6, r6, q n6⟩
    | @named x n i c ts b₀ suite np ep hds2 l2 nm nd at_ lc su r ih =>
      rintro ⟨b, hb, yes, no⟩
      refine wpAny_handleBy_cons (codeAny_handlers_test (ask nm ((PySem.W.exm_one (M := model X.prog X.w) Jg.kIn lk hb).here ?_))) (by intro q; cases q)
      cases b with
      | false => exact ih (no rfl)
      | true =>
        refine codeAny_handlers_suite_as (again fun g4 o4 S4 z4 d4 => ?_)
        refine store_ok (X := X.suite a ((a, o4) :: (X.pn ++ pins))) (v := .ref a) S4 nd at_ (.inl lc) rfl (fun t5 S5 => ?_) (.inr lc)
        cases d with
        | none =>
          refine wpAny_mono ((su a o4 cls none (X.pn ++ pins) z4 d4 pinD_none).run [] t5 _ H1 _ S5 (yes rfl a na)) (fun f t6 q => ?_) fun _ _ z => z.elim
          cases f with
          | next => obtain ⟨_, _, S6, q⟩ := q; exact L2.gone_ok (S6.unsuite ok) nd at_ lc fun t7 J7 => ⟨_, _, J7, q⟩
          | brk => obtain ⟨_, _, S6, q⟩ := q; exact L2.gone_ok (S6.unsuite ok) nd at_ lc fun t7 J7 => ⟨_, _, J7, q⟩
          | cont => obtain ⟨_, _, S6, q⟩ := q; exact L2.gone_ok (S6.unsuite ok) nd at_ lc fun t7 J7 => ⟨_, _, J7, q⟩
          | ret u => obtain ⟨_, _, _, S6, r6, q⟩ := q; exact L2.gone_ok (S6.unsuite ok) nd at_ lc fun t7 J7 => ⟨_, _, _, J7, r6, q⟩
        | some dd =>
          obtain ⟨fs, hx, w2⟩ := yes rfl a na
          have J5 := S5.unsuite ok
          obtain ⟨od, xo, S5c⟩ := hide S5 J5 hx
          refine wpAny_mono ((su a o4 cls (some (dd, fs)) ((dd, od) :: (X.pn ++ pins)) z4 d4 (fun _ _ e => by cases e; exact ⟨od, List.mem_cons_self, xo⟩)).run [] t5 _ _ _ S5c w2) (fun f t6 q => ?_) fun _ _ z => z.elim
          cases f with
          | next => obtain ⟨_, _, S6, q⟩ := q; obtain ⟨n6, J6⟩ := unhide S6 J5 hx xo; exact L2.gone_ok J6 nd at_ lc fun t7 J7 => ⟨_, _, J7, q n6⟩
          | brk => obtain ⟨_, _, S6, q⟩ := q; obtain ⟨n6, J6⟩ := unhide S6 J5 hx xo; exact L2.gone_ok J6 nd at_ lc fun t7 J7 => ⟨_, _, J7, q n6⟩
          | cont => obtain ⟨_, _, S6, q⟩ := q; obtain ⟨n6, J6⟩ := unhide S6 J5 hx xo; exact L2.gone_ok J6 nd at_ lc fun t7 J7 => ⟨_, _, J7, q n6⟩
          | ret u => obtain ⟨_, _, _, S6, r6, q⟩ := q; obtain ⟨n6, J6⟩ := unhide S6 J5 hx xo; exact L2.gone_ok J6 nd at_ lc fun t7 J7 => ⟨_, _, _, J7, r6, q n6⟩
end
/-! ### the dict put aside, for slots -/
section
variable {K : PySem.W.Frag} {F F0 F1 : Addr → Prop} {H : Hp} {dd : Addr} {fs : List (Str × V)} {ρ ρ' : En} {σ σ' : L2.St} {H' : Hp}
theorem del_oth (hx : H dd = some (.xd fs)) {a : Addr} {o : HO} (e : H a = some o) (n : ∀ fs, o ≠ .xd fs) : L2.del H dd a = some o := by
  rw [L2.del_ne fun z => by rw [z, hx] at e; exact n fs (Option.some.inj e).symm]; exact e
theorem sqT_cut (hx : H dd = some (.xd fs)) {a : Addr} {xs : List V} (h : SqT K H a xs) : SqT K (L2.del H dd) a xs := by
  rcases h with (h | ⟨o, h⟩) | h
  · exact .inl (.inl (del_oth hx h fun _ y => by cases y))
  · exact .inl (.inr ⟨o, del_oth hx h fun _ y => by cases y⟩)
  · exact .inr h
theorem sqL_cut (hx : H dd = some (.xd fs)) {a : Addr} {xs : List V} (h : SqL K H a xs) : SqL K (L2.del H dd) a xs := by
  rcases h with (h | ⟨o, h⟩) | h
  · exact .inl (.inl (del_oth hx h fun _ y => by cases y))
  · exact .inl (.inr ⟨o, del_oth hx h fun _ y => by cases y⟩)
  · exact .inr h
mutual
theorem Rep.cut (hx : H dd = some (.xd fs)) : ∀ {d : D} {v : V}, Rep K F H d v → Rep K F (L2.del H dd) d v
  | _, _, .non => .non
  | _, _, .bl b => .bl b
  | _, _, .int i => .int i
  | _, _, .str x => .str x
  | _, _, .tup h n r => .tup (sqT_cut hx h) n (Reps.cut hx r)
  | _, _, .lst h n r => .lst (del_oth hx h fun _ y => by cases y) n (Reps.cut hx r)
  | _, _, .kls h n r => .kls (sqL_cut hx h) n (Reps.cut hx r)
  | _, _, .dik h n r => .dik (del_oth hx h fun _ y => by cases y) n (Reps.cut hx r)
  | _, _, .dit h n r => .dit (del_oth hx h fun _ y => by cases y) n (Reps.cut hx r)
theorem Reps.cut (hx : H dd = some (.xd fs)) : ∀ {ds : List D} {vs : List V}, Reps K F H ds vs → Reps K F (L2.del H dd) ds vs
  | _, _, .nil => .nil
  | _, _, .cons h r => .cons (Rep.cut hx h) (Reps.cut hx r)
end
theorem Els.cut (hx : H dd = some (.xd fs)) : ∀ {es : List El} {vs : List V}, Els K F H es vs → Els K F (L2.del H dd) es vs
  | _, _, .nil => .nil
  | _, _, .d h r => .d (h.cut hx) (Els.cut hx r)
  | _, _, .p e h r => .p (del_oth hx e fun _ y => by cases y) (h.cut hx) (Els.cut hx r)
theorem Hold.cut (hx : H dd = some (.xd fs)) {u : SV} {a : Addr} (h : Hold K F H u a) : Hold K F (L2.del H dd) u a := by
  cases h with
  | own e r => exact .own (del_oth hx e fun _ y => by cases y) (r.cut hx)
  | dik e r => exact .dik (del_oth hx e fun _ y => by cases y) (r.cut hx)
  | dit e r => exact .dit (del_oth hx e fun _ y => by cases y) (r.cut hx)
  | tre e r n => exact .tre (del_oth hx e fun _ y => by cases y) (r.cut hx) n
theorem Rl.cut (hx : H dd = some (.xd fs)) (R : Rl K F0 ρ σ H) (n : ∀ a, F0 a → a ≠ dd) : Rl K F0 ρ σ (L2.del H dd) :=
  ⟨R.len, fun i x e => by obtain ⟨v, e1, r⟩ := R.dat i x e; exact ⟨v, e1, r.cut hx⟩, fun i u w e => by obtain ⟨a, e1, r, q⟩ := R.own i u w e; exact ⟨a, e1, r.cut hx, q⟩, R.inj, fun a h => by rw [L2.del_ne (n a h)]; exact R.alc a h, R.obj⟩
theorem nodd (n : H' dd = none) {a : Addr} {o : HO} (e : H' a = some o) : a ≠ dd := fun z => by rw [z, n] at e; cases e
theorem Rl.back (o : HO) (R : Rl K F1 ρ σ H') (n : H' dd = none) (k : ∀ a, F0 a → F1 a ∨ a = dd) : Rl K F0 ρ σ (upd H' dd o) := by
  have m : ∀ a, Fav F0 ρ σ a → Fav F1 ρ σ a ∨ H' a = none := fun a z => by
    rcases z with z | z
    · rcases k a z with z | z
      · exact .inl (.inl z)
      · rw [z]; exact .inr n
    · exact .inl (.inr z)
  have m2 : ∀ a u, H' a = some u → ¬ Fav F1 ρ σ a → upd H' dd o a = some u := fun a u e _ => by rw [upd_ne (nodd n e)]; exact e
  refine ⟨R.len, fun i x e => ?_, fun i u w e => ?_, R.inj, fun a h => ?_, R.obj⟩
  · obtain ⟨v, e1, r⟩ := R.dat i x e
    exact ⟨v, e1, r.mono m m2⟩
  · obtain ⟨a, e1, r, q⟩ := R.own i u w e
    have nd : ∀ c, u.has (some (some (.ref a))) c → c ≠ dd := fun c hc => by
      obtain ⟨o', e'⟩ := r.alc hc
      exact nodd n e'
    refine ⟨a, e1, r.mono m m2 fun c hc => by rw [upd_ne (nd c hc)], fun c hc z => ?_⟩
    rcases k c z with z | z
    · exact q c hc z
    · exact nd c (by rw [e1] at hc; exact hc) z
  · by_cases h' : a = dd
    · exact ⟨_, by rw [h']; exact upd_same⟩
    · obtain ⟨u, e⟩ := R.alc a ((k a h).resolve_right h')
      exact ⟨u, by rw [upd_ne h']; exact e⟩
theorem Stp.back (hx : H dd = some (.xd fs)) (S : Stp ρ σ (L2.del H dd) ρ' σ' H') (R : Rl K F1 ρ' σ' H') (n : H' dd = none) : Stp ρ σ H ρ' σ' (upd H' dd (.xd fs)) := by
  refine ⟨fun a o e q => ?_, fun a z => ?_, fun a e => ?_, S.io, S.ioT, S.len⟩
  · by_cases h : a = dd
    · rw [h, hx] at e
      rw [h, upd_same]; exact e
    · rw [upd_ne h]
      exact S.keep a o (by rw [L2.del_ne h]; exact e) q
  · have nd : a ≠ dd := fun z2 => by
      obtain ⟨o, e⟩ := R.fav_alc a (.inr z)
      exact nodd n e z2
    have q := S.own a z
    rw [L2.del_ne nd] at q
    exact q
  · by_cases h : a = dd
    · rw [h, upd_same] at e; cases e
    · rw [upd_ne h] at e
      have q := S.trk a e
      rw [L2.del_ne h] at q
      exact q
end
section
variable {X : Cx}
theorem OutS.cut {F0 : Addr → Prop} {ρ : En} {σ : L2.St} {H : Hp} {Ds : Ends} {dd : Addr} {fs : List (Str × V)} {r : Rs Z.Flow} (hx : H dd = some (.xd fs)) (ne : ∀ e ρ', r ≠ .exc e ρ') (o : OutS X (fun _ _ _ _ => False) F0 ρ σ H Ds r) :
    OutS X (fun _ _ _ _ => False) (fun a => F0 a ∧ a ≠ dd) ρ σ (L2.del H dd) (retrack Ds dd fs) r := by
  have k0 : ∀ a, F0 a → (F0 a ∧ a ≠ dd) ∨ a = dd := fun a z => by
    by_cases h : a = dd
    · exact .inr h
    · exact .inl ⟨z, h⟩
  have old : ∀ {a : Addr}, a ≠ dd → ∀ {P : Prop}, P ∨ L2.del H dd a = none → P ∨ H a = none := fun {a} h {P} z => by rw [L2.del_ne h] at z; exact z
  cases r with
  | bad => exact o
  | exc e ρ' => exact (ne e ρ' rfl).elim
  | ok fl ρ' =>
    cases fl with
    | nx => exact fun σ' H' R' T n => o σ' _ (R'.back _ n k0) (T.back hx R' n)
    | bk => exact fun σ' H' R' T n => o σ' _ (R'.back _ n k0) (T.back hx R' n)
    | ct => exact fun σ' H' R' T n => o σ' _ (R'.back _ n k0) (T.back hx R' n)
    | rt x =>
      exact fun v σ' H' R' T r n => o v σ' _ (R'.back _ n k0) (T.back hx R' n) (r.mono (fun a z => by
        rcases z with z | z
        · exact (k0 a z).elim (fun z => .inl (.inl z)) fun z => .inr (by rw [z]; exact n)
        · exact .inl (.inr z)) fun a u e _ => by rw [upd_ne (nodd n e)]; exact e)
    | rf ds =>
      intro p vs σ' H' R' T hp hv r n
      have k1 : ∀ a, plus F0 p a → plus (fun a => F0 a ∧ a ≠ dd) p a ∨ a = dd := fun a z => by
        rcases z with z | z
        · exact (k0 a z).imp .inl id
        · exact .inl (.inr z)
      exact o p vs σ' _ (R'.back _ n k1) (T.back hx R' n) (old (nodd n hv) hp) (by rw [upd_ne (nodd n hv)]; exact hv) (r.mono (fun a z => by
        rcases z with z | z
        · exact (k1 a z).elim (fun z => .inl (.inl z)) fun z => .inr (by rw [z]; exact n)
        · exact .inl (.inr z)) fun a u e _ => by rw [upd_ne (nodd n e)]; exact e)
    | rtr ts =>
      intro p es σ' H' R' T hp hs r n
      have k1 : ∀ a, plusT F0 p es a → plusT (fun a => F0 a ∧ a ≠ dd) p es a ∨ a = dd := fun a z => by
        rcases z with z | z
        · exact (k0 a z).imp .inl id
        · exact .inl (.inr z)
      have nd : ∀ c, (SV.tre false es).has (some (some (.ref p))) c → c ≠ dd := fun c hc => by
        obtain ⟨o', e'⟩ := r.alc hc
        exact nodd n e'
      exact o p es σ' _ (R'.back _ n k1) (T.back hx R' n) (fun c hc => old (nd c (hc.elim (fun e => .inl ⟨rfl, by rw [e]⟩) .inr)) (hp c hc)) hs (r.mono (fun a z => by
        rcases z with z | z
        · exact (k1 a z).elim (fun z => .inl (.inl z)) fun z => .inr (by rw [z]; exact n)
        · exact .inl (.inr z)) (fun a u e _ => by rw [upd_ne (nodd n e)]; exact e) fun c hc => by rw [upd_ne (nd c hc)])
end
/-! ### the chain of clauses, as a function -/
/-- the exception's dict as the clauses know it -/
def FitX (e : Exn) (d : XD) : Prop := match e.fld with
  | none => d = none
  | some (f, n) => ∃ dd, d = some (dd, [(f, V.int n)])
abbrev Chain := Exn → En → Rs Z.Flow
def cEnd : Chain := fun e ρ => .exc e ρ
noncomputable def cNamed (i : Nat) (sub : Str → Option Bool) (h : Exn → Addr → M Z.Flow) (r : Chain) : Chain := fun e ρ => match sub e.cls with
  | some true => handled i (h e) ρ
  | some false => r e ρ
  | none => .bad
def cPlain (sub : Str → Option Bool) (h : Exn → M Z.Flow) (r : Chain) : Chain := fun e ρ => match sub e.cls with
  | some true => (match h e ρ with
    | .ok fl ρ2 => .ok fl ρ2
    | _ => .bad)
  | some false => r e ρ
  | none => .bad
def mtryM (body : M Z.Flow) (k : Chain) : M Z.Flow := fun ρ => match body ρ with
  | .exc e ρ' => k e ρ'
  | r => r
def ChOk (X : Cx) (W : WX) (hds : List ExceptHandler) (k : Chain) : Prop := ∃ l, ClsOk X hds l ∧ ∀ {F0 : Addr → Prop} {ρ : En} {σ : L2.St} {H : Hp} {Ds : Ends} {e : Exn} {ρ1 : En} {cv : Value} {d : Option Addr} {σ1 : L2.St} {H1 : Hp},
  Rl X.K F0 ρ1 σ1 H1 → Stp ρ σ H ρ1 σ1 H1 → ExRep X.mg e cv d H1 → OutS X W F0 ρ σ H Ds (k e ρ1) → wCls X.K W Ds l cv d σ1 H1
section
variable {X : Cx} {W : WX}
theorem ch_end : ChOk X W [] cEnd := ⟨[], .nil, fun R S xr o => o _ _ _ _ R S xr⟩
theorem ch_named {x n : Str} {c : Value} {i : Nat} {b₀ : Stmt} {suite : List Stmt} {np ep : Pos} {hds : List ExceptHandler} {sub : Str → Option Bool} {h : Exn → Addr → M Z.Flow} {k : Chain}
    (hN : X.N.Nodup) (hi : X.N[i]? = some n) (hln : X.env.kindOf n = some .local) (hc : Names X x c) (hsub : SubOk X.K X.mg c sub)
    (hsu : ∀ (e : Exn) (d : XD) (a C : Addr) (oe : Obj) (pn : List (Addr × Obj)), X.mg e.cls = some (.ref C) → FitX e d → PinD d pn → L2N.Zn (.ref C) (d.map (·.1)) oe → (∃ vs, oe.data = .fields vs) → SSs (X.suite a ((a, oe) :: pn)) (fun _ _ _ _ => False) (h e a) (b₀ :: suite))
    (r : ChOk X W hds k) : ChOk X W (.ExceptHandler (some (.Name x np)) (some n) (b₀ :: suite) ep :: hds) (cNamed i sub h k) := by
  obtain ⟨l, cl, w⟩ := r
  refine ⟨⟨c, some i, fun a cls d D σ H => ∃ e : Exn, (X.mg e.cls = some cls ∧ FitX e d ∧ ∃ C, cls = .ref C) ∧ tS X (fun _ _ _ _ => False) (h e a) D σ H⟩ :: l, .named hc hN hi hln (fun a oe cls d pn hz hv hp => PSs.ex fun e he => ?_) cl, ?_⟩
  · obtain ⟨h1, h2, C, rfl⟩ := he
    exact hsu e d a C oe pn h1 h2 hp hz hv
  · intro F0 ρ σ H Ds e ρ1 cv d σ1 H1 R S xr o
    obtain ⟨ec, ed⟩ := id xr
    unfold cNamed at o
    split at o
    · rename_i hsb
      obtain ⟨C, gC, hC⟩ := hsub _ _ hsb
      have eC : cv = .ref C := Option.some.inj (ec.symm.trans gC)
      subst eC
      refine ⟨true, hC, fun _ a na => ?_, fun z => by cases z⟩
      unfold handled at o
      split at o
      · rename_i hh
        obtain ⟨hn, hall⟩ := hh
        rw [← hall a] at o
        cases hf : e.fld with
        | none =>
          rw [hf] at ed
          have ed : d = none := ed
          subst ed
          obtain ⟨R2, less⟩ := R.setE (a := a) (noOwn_lt hn)
          exact ⟨e, ⟨ec, by unfold FitX; rw [hf], C, rfl⟩, F0, _, R2, OutS.handler S hn less o⟩
        | some fn =>
          obtain ⟨f, n⟩ := fn
          rw [hf] at ed
          obtain ⟨dd, rfl, hx⟩ := ed
          refine ⟨_, hx, e, ⟨ec, by unfold FitX; rw [hf]; exact ⟨dd, rfl⟩, C, rfl⟩, ?_⟩
          obtain ⟨R2, less⟩ := R.setE (a := a) (noOwn_lt hn)
          refine ⟨_, _, (R2.less fun _ z => z.1).cut hx (fun _ z => z.2), OutS.cut hx (fun e2 ρ2 z => ?_) (OutS.handler S hn less o)⟩
          rw [z] at o
          exact o
      · exact o.elim
    · rename_i hsb
      obtain ⟨C, gC, hC⟩ := hsub _ _ hsb
      have eC : cv = .ref C := Option.some.inj (ec.symm.trans gC)
      subst eC
      exact ⟨false, hC, fun z => (by cases z), fun _ => w R S xr o⟩
    · exact o.elim
theorem ch_plain {x : Str} {c : Value} {b₀ : Stmt} {suite : List Stmt} {np ep : Pos} {hds : List ExceptHandler} {sub : Str → Option Bool} {h : Exn → M Z.Flow} {k : Chain}
    (hc : Names X x c) (hsub : SubOk X.K X.mg c sub)
    (hsu : ∀ (e : Exn) (d : XD) (a C : Addr) (oe : Obj) (pn : List (Addr × Obj)), X.mg e.cls = some (.ref C) → FitX e d → PinD d pn → L2N.Zn (.ref C) (d.map (·.1)) oe → (∃ vs, oe.data = .fields vs) → SSs (X.suite a ((a, oe) :: pn)) (fun _ _ _ _ => False) (h e) (b₀ :: suite))
    (r : ChOk X W hds k) : ChOk X W (.ExceptHandler (some (.Name x np)) none (b₀ :: suite) ep :: hds) (cPlain sub h k) := by
  obtain ⟨l, cl, w⟩ := r
  refine ⟨⟨c, none, fun a cls d D σ H => ∃ e : Exn, (X.mg e.cls = some cls ∧ FitX e d ∧ ∃ C, cls = .ref C) ∧ tS X (fun _ _ _ _ => False) (h e) D σ H⟩ :: l, .plain hc (fun a oe cls d pn hz hv hp => PSs.ex fun e he => ?_) cl, ?_⟩
  · obtain ⟨h1, h2, C, rfl⟩ := he
    exact hsu e d a C oe pn h1 h2 hp hz hv
  · intro F0 ρ σ H Ds e ρ1 cv d σ1 H1 R S xr o
    obtain ⟨ec, ed⟩ := id xr
    unfold cPlain at o
    split at o
    · rename_i hsb
      obtain ⟨C, gC, hC⟩ := hsub _ _ hsb
      have eC : cv = .ref C := Option.some.inj (ec.symm.trans gC)
      subst eC
      refine ⟨true, hC, fun _ a na => ?_, fun z => by cases z⟩
      cases hf : e.fld with
      | none =>
        rw [hf] at ed
        have ed : d = none := ed
        subst ed
        exact ⟨e, ⟨ec, by unfold FitX; rw [hf], C, rfl⟩, F0, ρ1, R, OutS.handlerO S o⟩
      | some fn =>
        obtain ⟨f, n⟩ := fn
        rw [hf] at ed
        obtain ⟨dd, rfl, hx⟩ := ed
        refine ⟨_, hx, e, ⟨ec, by unfold FitX; rw [hf]; exact ⟨dd, rfl⟩, C, rfl⟩, ?_⟩
        refine ⟨_, _, (R.less fun _ z => z.1).cut hx (fun _ z => z.2), OutS.cut hx (fun e2 ρ2 z => ?_) (OutS.handlerO S o)⟩
        rw [z] at o
        exact o
    · rename_i hsb
      obtain ⟨C, gC, hC⟩ := hsub _ _ hsb
      have eC : cv = .ref C := Option.some.inj (ec.symm.trans gC)
      subst eC
      exact ⟨false, hC, fun z => (by cases z), fun _ => w R S xr o⟩
    · exact o.elim
theorem ss_tryM {body : List Stmt} {h₀ : ExceptHandler} {hds : List ExceptHandler} {pos : Pos} {g : M Z.Flow} {k : Chain} (hs : X.stack = X.env :: X.outer) (hf : X.env.frame = some X.env.locals) (tk : L2N.Takes X W)
    (hb : ∀ (W : WX) (pn : List (Addr × Obj)) (xe : Value → Shared → Prop), L2N.Takes (X.tr pn xe) W → PassesOwn (model X.prog X.w) X.A X.env xe → SSs (X.tr pn xe) W g body)
    (hc : ChOk X W (h₀ :: hds) k) : SS X W (mtryM g k) (.Try body (h₀ :: hds) [] [] pos) := by
  obtain ⟨l, cl, w⟩ := hc
  refine (ps_try_cls (tb := fun W => tS X W g) (Wout := W) hs hf tk (fun W' pn xe tk' hp' => hb W' pn xe tk' hp') cl).imp fun D σ H ⟨F0, ρ, R, o⟩ => ⟨F0, ρ, R, ?_⟩
  unfold mtryM at o
  cases eg : g ρ with
  | bad => rw [eg] at o; exact o
  | ok fl ρ' => rw [eg] at o; cases fl <;> exact o
  | exc e ρ' =>
    rw [eg] at o
    exact fun cv d σ' H' R' S' xr => w R' S' xr o
end
end Z

/-! Z: raise C(place), C with an own __init__; isinstance and .place of what is caught -/
namespace PySem.W
open PySem PySem.Spec PySem.Calls PyProof.Rows
section
variable {prog : Program} {w : World} {A : Around} {E : Value → Shared → Prop} {s : Shared} {K : Frag} {x D : Addr} {ox : Obj} {od : Option Obj}
theorem zfindObj {C : Addr} {name : Str} {a g : Value} (hc : (clsIn K C).isSome = true) (ha : findIn K (.ref C) name = some (some a)) (hg : specialIn K a "__get__" = some (some g)) (ht : takesIn K a = some true) : findObj K C od name = some (.bind g a) := by
  obtain ⟨cd, hc⟩ := Option.isSome_iff_exists.mp hc
  unfold findObj
  rw [hc, Option.bind_some, ha, Option.bind_some]
  simp [hg, ht]
theorem zkin_class {Q : Option Value → Shared → Prop} (C : L2.ExcC K D) (X : K.In s.heap) (I : InstAt s.heap x ox D od) (h : Q (some (.ref D)) { s with toks := s.toks + 1 }) : wpAny (model prog w) A (getAttr? (.ref x) "__class__") Q E s := by
  have hf : findObj K D od "__class__" = some (.bind (.builtin "getset_descriptor.__get__") (.builtin "object.__class__")) := zfindObj (by obtain ⟨cd, hc, _⟩ := any_some C.hd; rw [hc]; rfl) C.ha C.hn C.ht
  obtain ⟨hp, g, d, t, os⟩ := s
  have L0 := I.type (M := model prog w)
  have L1 := looks_findIn (M := model prog w) X C.hg
  have L2 := looks_findIn (M := model prog w) X C.hk
  have L3 := looks_find (M := model prog w) X I hf
  have sub : Looks (model prog w) hp (isInstance (.ref x) (.type "BaseException")) true := L0.andThen (looks_subIn X C.hs)
  have hx0 : (false && onTheHeap (Value.builtin "BaseException.__getattribute__")) = false := rfl
  have hx2 : (Value.builtin "BaseException.__getattribute__" == Value.builtin "object.__getattribute__") = false := by decide +kernel
  have hx1 : (onTheHeap (Value.ref D) && Value.builtin "BaseException.__getattribute__" == Value.builtin "object.__getattribute__") = false := by rw [hx2]; rfl
  unfold getAttr? getAttrBy? getAttrBy
  refine wpAny_bind (wpAny_mkText (wpAny_bind (wpAny_attempt (wpAny_holding (wpAny_bind (L0.at (wpAny_bind (L1.at ?_))))))))
  show wpAny _ _ (if (onTheHeap (Value.ref D) && Value.builtin "BaseException.__getattribute__" == Value.builtin "object.__getattribute__") = true then _ else _) _ _ _
  rw [hx1, if_neg Bool.false_ne_true]
  unfold getAttrByItsOwn hookBefore
  refine wpAny_bind ?_
  rw [if_pos (show onTheHeap (Value.ref D) = true from rfl)]
  refine L2.at ?_
  refine wpAny_bind (wpAny_attempt (wpAny_holding ?_))
  unfold callGetattribute
  rw [hx0, if_neg Bool.false_ne_true]
  unfold boundAndCalled
  rw [PySem.F.excAttr_ValueError.ga.bind (.ref x)]
  refine wpAny_bind (wpAny_pure ?_)
  show wpAny _ _ (call (.builtin "BaseException.__getattribute__") [.ref x, .str "__class__" t]) _ _ _
  refine wpAny_call (codeAny_call_builtin PySem.F.excAttr_ValueError.ga.plain PySem.F.entry_bexc_ga ?_)
  refine @check_slot (model prog w) _ _ ⟨hp, g, d, t + 1, os⟩ "BaseException.__getattribute__" "BaseException" "__getattribute__" (.ref x) [.str "__class__" t] [] _ (by decide +kernel) (by decide +kernel) sub (PySem.F.args_bexc_ga (.ref x) (.str "__class__" t)) ?_
  unfold Builtin.«object.__getattribute__»
  refine wpAny_bind (wpAny_of_eq (a := ((Value.ref x : Value), [Value.str "__class__" t])) (by first | rfl | (simp only [slotArgs]; rfl)) ?_)
  refine wpAny_bind (wpAny_pure (wpAny_bind (L0.at (wpAny_bind (L3.at ?_)))))
  show wpAny _ _ (holding [Value.builtin "object.__class__"] (call (.builtin "getset_descriptor.__get__") [.builtin "object.__class__", .ref x, .ref D]) >>= ret) _ _ _
  refine wpAny_bind (wpAny_holding (wpAny_call (class_get (s := ⟨hp, g, d, t + 1, os⟩) (ox := ox) (od := od) X I C.hm ?_)))
  refine wpAny_pure ?_
  show wpAny _ _ (handedOut (.ref D)) _ _ _
  rw [handedOut_of (v := .ref D) rfl]
  first
    | exact wpAny_pure (wpAny_pure h)
    | exact wpAny_pure h
    | exact wpAny_pure (wpAny_bind (wpAny_pure (wpAny_pure h)))
theorem zkitx (C : L2.ExcC K D) : KitX K (.ref x) (.ref D) (fun h => InstAt h x ox D od) where
  ty := fun _ _ _ I => I.type
  it := fun _ _ X _ => by
    obtain ⟨cdD, hcD, _⟩ := any_some C.hd
    unfold clsIn at hcD
    split at hcD
    · rename_i c' d' cd' sl' ho
      intro A' Q' E' s' k q
      unfold isType loadHead
      exact wpAny_bind (wpAny_loadPart (k _ _ (X _ _ ho)) (wpAny_pure q))
    · cases hcD
  ne := fun h tp dd its n sl X htp => by
    obtain ⟨cdD, hcD, _⟩ := any_some C.hd
    refine Bool.eq_false_iff.mpr fun q => ?_
    have e : D = tp := Value.ref.inj (beq_iff_eq.mp q)
    subst e
    unfold clsIn at hcD
    split at hcD
    · rename_i c' d' cd' sl' ho
      have z := (X _ _ ho).symm.trans htp
      cases z
    · cases hcD
  ca := fun X I k => zkin_class C X I k
end
end PySem.W
namespace Z
open PySem PySem.Spec PyProof.Rows L2
section
variable {X : Cx} {W : WX}
theorem inst_at {pins : List (Addr × Obj)} {s : Shared} {σ : L2.St} {H : Hp} {a D : Addr} {oe : Obj} {pn : List (Addr × Obj)} {d : XD} (hz : Zc (.ref D) (d.map (·.1)) oe) (hp : PinD d pn) (hf : ∃ vs, oe.data = .fields vs) (I : Inv (X.suite a ((a, oe) :: pn)) pins σ H s) :
    ∃ od, PySem.W.InstAt s.heap a oe D od ∧ ∀ dd fs, d = some (dd, fs) → ∃ o, od = some o ∧ XdO dd o fs := by
  obtain ⟨hget, _⟩ := I.pin (a, oe) (List.mem_append.mpr (.inl List.mem_cons_self))
  obtain ⟨vs, hv⟩ := hf
  obtain ⟨oc, od, oda, osl⟩ := oe
  obtain ⟨h1, h2⟩ := hz
  dsimp only at h1 h2 hv
  subst h1 h2 hv
  cases d with
  | none => exact ⟨none, ⟨hget, rfl, rfl, trivial⟩, fun _ _ e => by cases e⟩
  | some p =>
    obtain ⟨dd, fs⟩ := p
    obtain ⟨o, hm, xo⟩ := hp dd fs rfl
    obtain ⟨ho, _⟩ := I.pin (dd, o) (List.mem_append.mpr (.inl (List.mem_cons_of_mem _ hm)))
    exact ⟨some o, ⟨hget, rfl, rfl, ho⟩, fun _ _ e => by cases e; exact ⟨o, rfl, xo⟩⟩
theorem call_isF {a D : Addr} {oe : Obj} {pn : List (Addr × Obj)} {d : XD} (C : ExcC X.K D) (hz : Zc (.ref D) (d.map (·.1)) oe) (hp : PinD d pn) (hf : ∃ vs, oe.data = .fields vs) : CallR (X.suite a ((a, oe) :: pn)) (.builtin "isinstance") (rIsE X.K D a) := by
  intro pins s σ H xs us Q I r h
  obtain ⟨c, cv, b, rfl, hcv, e, q⟩ := h
  cases r with
  | cons rx rr =>
    cases rr with
    | cons rt rr =>
      cases rr
      cases rx
      have ec := hcv _ rt
      subst ec
      obtain ⟨od, J, _⟩ := inst_at hz hp hf I
      exact PySem.W.kia_one (PySem.W.zkitx (od := od) C) I.kIn J e (fun z => nomatch z) fun tk => ⟨.bl b, H, I.kept (t' := tk) fun _ _ z => z, rfl, q⟩
theorem se_isF {i : Nat} {a C : Addr} {oe : Obj} {pn : List (Addr × Obj)} {cls : Str} {tab : Str → Option Bool} {e te : Expr} {c : V} {cv : Value} {p pos : Pos} {d : XD} (hz : Zc (.ref C) (d.map (·.1)) oe) (hp : PinD d pn) (hv : ∃ vs, oe.data = .fields vs) (hC : X.mg cls = some (.ref C)) (ht : IsOk X.K X.mg cv tab)
    (hg : Gl X "isinstance") (hm : X.mg "isinstance" = none) (he : PE (X.suite a ((a, oe) :: pn)) e (tVar i)) (hD : PE (X.suite a ((a, oe) :: pn)) te (tC c)) (hcv : ∀ u, RelV c u → u = cv)
    (h1 : starEach (e :: [te]) X.env = (false, eval e X.env) :: starEach [te] X.env := by rfl) (h2 : starEach (te :: []) X.env = (false, eval te X.env) :: starEach [] X.env := by rfl) (hpl : (backTo pos (starEach [te] X.env)).any (·.1) = false := by rfl) :
    SE (X.suite a ((a, oe) :: pn)) W (misE i a (tab cls)) (.Call (.Name "isinstance" p) [e, te] [] pos) := by
  cases eb : tab cls with
  | none =>
    refine ⟨fun pins s σ H Q I ⟨F0, ρ, R, o⟩ => ?_⟩
    unfold misE at o
    split at o
    · split at o
      · exact o.elim
      · exact o.elim
    · exact o.elim
  | some b =>
    obtain ⟨hx, hk⟩ := ht _ _ eb _ hC
    refine (pe_callB (X := X.suite a ((a, oe) :: pn)) (call_isF hx hz hp hv) hg hm (by decide +kernel) (pa_cons he (pa_cons hD pa_nil h2) h1) (by decide) (by decide) h1 hpl).imp fun σ H Q ⟨F0, ρ, R, o⟩ => ?_
    unfold misE at o
    split at o
    · rename_i b' e1
      split at o
      · rename_i ea
        subst ea
        refine ⟨_, R.obj i _ e1, ?_⟩
        exact ⟨c, cv, b, rfl, hcv, hk, o (.bl b) H R (Stp.refl _ _ _) (.bl b)⟩
      · exact o.elim
    · exact o.elim

/-! ### e.place -/
def mfld (i : Nat) (a : Addr) (ks : List Str) (e : Exn) : M D := fun ρ => match ρ[i]? with
  | some (some (.ex b)) => if b = a ∧ e.cls ∈ ks then (match e.fld with
    | some (f, n) => if f = "place" then .ok (.int n) ρ else .bad
    | none => .bad) else .bad
  | _ => .bad
def FldOk (K : PySem.W.Frag) (mg : Str → Option Value) (ks : List Str) : Prop := ∀ x ∈ ks, ∀ C, mg x = some (.ref C) → ExcC K C ∧ PySem.W.findIn K (.ref C) "place" = some none
theorem fld_nil {K : PySem.W.Frag} {mg : Str → Option Value} : FldOk K mg [] := fun x h => by cases h
theorem fld_cons {K : PySem.W.Frag} {mg : Str → Option Value} {x : Str} {C : Addr} {ks : List Str} (g : mg x = some (.ref C)) (h : ExcC K C) (n : PySem.W.findIn K (.ref C) "place" = some none) (r : FldOk K mg ks) : FldOk K mg (x :: ks) := fun y hy C' g' => by
  rcases List.mem_cons.mp hy with rfl | hy
  · rw [g] at g'; cases g'; exact ⟨h, n⟩
  · exact r y hy C' g'
theorem se_fld {i : Nat} {a C : Addr} {oe : Obj} {pn : List (Addr × Obj)} {ex : Exn} {ks : List Str} {e : Expr} {pos : Pos} {d : XD} (hz : Zc (.ref C) (d.map (·.1)) oe) (hp : PinD d pn) (hv : ∃ vs, oe.data = .fields vs) (hC : X.mg ex.cls = some (.ref C)) (hx : FitX ex d) (hk : FldOk X.K X.mg ks)
    (he : PE (X.suite a ((a, oe) :: pn)) e (tVar i)) (hb : attributeBase e "place" X.env (eval e X.env) = eval e X.env := by rfl) :
    SE (X.suite a ((a, oe) :: pn)) W (mfld i a ks ex) (.Attribute e "place" pos) := by
  refine ⟨fun pins s σ H Q I ⟨F0, ρ, R, o⟩ => ?_⟩
  unfold mfld at o
  split at o
  · rename_i b e1
    split at o
    · rename_i ea
      obtain ⟨rfl, hm⟩ := ea
      unfold FitX at hx
      cases hf : ex.fld with
      | none => rw [hf] at o; exact o.elim
      | some fn =>
        obtain ⟨f, n⟩ := fn
        rw [hf] at o hx
        obtain ⟨dd, rfl⟩ := hx
        simp only at o
        split at o
        · rename_i hfp
          subst hfp
          refine attr_of hb (thn (he.run pins s σ H (fun v H1 => v = .ref b ∧ H1 = H) I ⟨_, R.obj i _ e1, rfl, rfl⟩) fun u s1 hh => ?_)
          obtain ⟨x, H1, I1, rx, ex1, eH⟩ := hh
          subst ex1 eH
          obtain rfl : u = Value.ref b := rx
          obtain ⟨od, J, xo⟩ := inst_at hz hp hv I1
          obtain ⟨od', rfl, mA, _, hl, hr⟩ := xo _ _ rfl
          obtain ⟨T, hno⟩ := hk _ hm _ hC
          obtain ⟨u, hu, ru⟩ := RelO.some_of (v := V.int n) (o := mA "place") (hr "place")
          exact HandSPX.exc_get I1.kIn J T.hg T.hk T.hs (PySem.W.findObj_own T.hd hno rfl (by rw [hl, hu])) (handed_of ru) ⟨_, _, I1.tok _, ru, o (.int n) _ R (Stp.refl _ _ _) (.int n)⟩
        · exact o.elim
    · exact o.elim
  · exact o.elim

/-! ### raise C(place) -/
def mraiseP (c : Str) (m : M D) : M Z.Flow := mbind m fun x ρ => match x with
  | .int n => .exc ⟨c, some ("place", n)⟩ ρ
  | _ => .bad
def tMkI (C : Addr) (ta : TA) : L2.St → Hp → XK → Prop := fun σ H Q => ta σ H fun vs H1 => ∃ y, vs = [y] ∧ ∀ dx, H1 dx = none → Q (.ref C) (some dx) (upd H1 dx (.xd [("place", y)]))
theorem pmk_i {x : Str} {ini : Stmt} {e : Expr} {ta : TA} {p pos : Pos} (T : ICls X.prog X.K X.mg x ini) (B : IniForm ini) (hr : Room 2 X.A) (hg : Gl X x) (ha : PA X [e] ta)
    (hdb : (x == ("__debug__" : Str)) = false := by decide) (he : starEach (e :: []) X.env = (false, eval e X.env) :: starEach [] X.env := by rfl) (hpl : (backTo pos (starEach [] X.env)).any (·.1) = false := by rfl) :
    L2N.PMk X (.Call (.Name x p) [e] [] pos) (tMkI T.C ta) := by
  intro pins s σ H Q I h
  have OX := T.oex
  obtain ⟨nm, q, N, bs, bm, sn, sub, ab, col, dd, k0, k1, k2, k3, k5, hC, hbm⟩ := OX.cls
  refine wpAny_Call_Name_kw (ld_glob I hg T.g ?_ hdb)
  refine PySem.W.callWith_K (h₀ := X.base) I.ok.mod.kin T.k (thn (ha.run pos pins s σ H _ I h) fun us s1 ⟨vs, H1, I1, r1, y, hy, q1⟩ => ⟨I1.kIn, ?_⟩) he hpl
  subst hy
  cases r1 with
  | @cons _ u _ _ ry rr =>
  cases rr
  show wpAny _ _ (call (.ref T.C) [u]) _ _ _
  obtain ⟨hp, g, dr, tk, os⟩ := s1
  have hsz : hp.objs.size ≤ hp.objs.size + 1 := Nat.le_succ _
  have hn : H1 (hp.objs.size + 1) = none := I1.hok.fresh hsz
  have kk : ∀ b o, hp.get? b = some o → ((hp.push (PySem.W.kdv_tup [u])).push (PySem.HandSPX.excO T.C hp.objs.size)).get? b = some o := fun b o e => Heap.get?_push_of_some _ (Heap.get?_push_of_some _ e)
  have hget : ((hp.push (PySem.W.kdv_tup [u])).push (PySem.HandSPX.excO T.C hp.objs.size)).get? (hp.objs.size + 1) = some (PySem.HandSPX.excO T.C hp.objs.size) := by heap_get
  have I2 : Inv X pins σ (upd H1 (hp.objs.size + 1) (exo (hp.objs.size + 1) T.C none)) ⟨(hp.push (PySem.W.kdv_tup [u])).push (PySem.HandSPX.excO T.C hp.objs.size), g, dr, tk, os⟩ :=
    I1.laid (t' := tk) (a := hp.objs.size + 1) (o := exo (hp.objs.size + 1) T.C none) (h' := (hp.push (PySem.W.kdv_tup [u])).push (PySem.HandSPX.excO T.C hp.objs.size)) kk hsz (exo_ok hget)
  have r2 : Vals [V.ref (hp.objs.size + 1), y] [Value.ref (hp.objs.size + 1), u] := .cons rfl (.cons ry .nil)
  have F1 : FnOk X.prog X.w X.K X.mg X.base (fun _ _ _ _ _ _ => False) 1 T.fI T.fd ["self", "place"] (spI X.K T.C) := init_ok (k := 0) T B
  have hq : spI X.K T.C [V.ref (hp.objs.size + 1), y] (upd H1 (hp.objs.size + 1) (exo (hp.objs.size + 1) T.C none))
      (fun v H2 => v = .non ∧ ∃ (d : Addr) (fs : List (Str × V)), H2 (hp.objs.size + 1) = some (exo (hp.objs.size + 1) T.C (some d)) ∧ H2 d = some (exd d fs) ∧ H1 d = none ∧ Q (.ref T.C) (some d) (upd (del H2 (hp.objs.size + 1)) d (.xd fs))) (fun _ _ _ => False) := by
    refine ⟨_, y, rfl, upd_same, fun dx hdx hne => ⟨rfl, dx, [("place", y)], upd_same, ?_, ?_, ?_⟩⟩
    · rw [upd_ne hne, upd_same]
    · rw [upd_ne hne] at hdx; exact hdx
    · rw [upd_ne hne] at hdx
      have e : upd (del (upd (upd (upd H1 (hp.objs.size + 1) (exo (hp.objs.size + 1) T.C none)) dx (exd dx [("place", y)])) (hp.objs.size + 1) (exo (hp.objs.size + 1) T.C (some dx))) (hp.objs.size + 1)) dx (.xd [("place", y)]) = upd H1 dx (.xd [("place", y)]) := by
        funext b
        by_cases hb : b = dx
        · rw [hb, upd_same, upd_same]
        · rw [upd_ne hb, upd_ne hb]
          by_cases ha : b = hp.objs.size + 1
          · rw [ha, del_same, hn]
          · rw [del_ne ha, upd_ne ha, upd_ne hb, upd_ne ha]
      rw [e]
      exact q1 dx hdx
  refine wpAny_call (PySem.HandSPX.call_own F.excBase_ValueError (fun Y => PySem.HandSPX.refsVE_contains Y bm hbm) (I1.kIn _ _ hC) (PySem.W.looks_findIn I1.kIn T.iC) (fun self => PySem.W.bind_fn I1.kIn self T.tI) (by show 1 ≤ sizeLine; rw [sizeLine_eq]; omega)
    (codeAny_mono (F1.run _ X.stack _ _ ⟨[Value.ref (hp.objs.size + 1), u], []⟩ [Value.ref (hp.objs.size + 1), u] _ _ (fun _ _ _ => False) (hr.make T.C [u] []) (I2.env0.make T.C [u] []) (T.bd _ [Value.ref (hp.objs.size + 1), u] I2.kIn rfl) r2 hq) fun r s' hq' => ?_))
  cases r with
  | error er => exact False.elim hq'
  | ok fl =>
    cases fl with
    | ret u =>
      obtain ⟨v, H2, os2, bare2, un2, hok2, rv, ev, d, fs, ea, ed, hd1, q2⟩ := hq'
      subst ev
      obtain ⟨h2, g2, d2, t2, os'⟩ := s'
      obtain ⟨t0, G, J, kG, ge, hoe, na⟩ := mk_end0 (d2 := d2) (t2 := t2) I1 hsz kk un2 hok2 os2 bare2 ea ed hd1
      refine ⟨rv, hp.objs.size + 1, _, _, ⟨G, g2, d2, t2, os'⟩, _, .ref T.C, some d, rfl, J, kG, ge, hoe, ⟨rfl, rfl, fun vs hv => ?_⟩, rfl, rfl, na, rfl, bare2, raises_own OX.exC OX.tyC, q2⟩
      cases hv
      rfl
    | next => exact False.elim hq'
    | brk => exact False.elim hq'
    | cont => exact False.elim hq'
theorem ss_raiseP {x : Str} {ini : Stmt} {e : Expr} {m : M D} {p pos pos' : Pos} (hc : X.calm = true) (tk : L2N.Takes X W) (T : ICls X.prog X.K X.mg x ini) (B : IniForm ini) (hr : Room 2 X.A) (hg : Gl X x) (hm : SE X W m e) (hdb : (x == ("__debug__" : Str)) = false := by decide)
    (he : starEach (e :: []) X.env = (false, eval e X.env) :: starEach [] X.env := by rfl) (hpl : (backTo pos (starEach [] X.env)).any (·.1) = false := by rfl) :
    SS X W (mraiseP x m) (.Raise (some (.Call (.Name x p) [e] [] pos)) none pos') :=
  (L2N.ps_raise hc tk (pmk_i T B hr hg (pa_cons hm pa_nil he) hdb he hpl)).imp fun D σ H ⟨F0, ρ, R, o⟩ => sqE R o fun x ρ1 v H1 R1 S1 r1 o1 => by
    refine ⟨v, rfl, fun dx hdx => ?_⟩
    split at o1
    · rename_i n
      cases r1
      exact o1 (.ref T.C) (some dx) σ _ (R1.same (Same.new hdx _)) (Stp.same (Same.new hdx _)) ⟨T.g, dx, rfl, upd_same⟩
    · exact o1.elim
end
end Z

/-! Z: < of tuples, sum of a tuple, a text so many times -/
namespace Z
open PySem PySem.Spec PyProof.Rows L2
section
variable {X : Cx}
def ltTD : D → D → Option D
  | .int i, .int j => some (.bl (decide (i < j)))
  | .tup xs, .tup ys => match asInts xs, asInts ys with
    | some ns, some ms => some (.bl (HT.lexLt ns ms))
    | _, _ => none
  | _, _ => none
abbrev rLtA (K : PySem.W.Frag) : R2 := fun x y H Q => rI0 (fun i j => .bl (decide (i < j))) x y H Q ∨ rLtT K x y H Q
theorem op_ltA (hu : X.A.units + 64 < cLine) : OpR X (compareOp .Lt) (rLtA X.K) := op_lt.or (op_ltT (Nat.lt_of_le_of_lt (Nat.le_add_right _ 64) hu))
theorem sem_ltT : Sem2 X (rLtA X.K) ltTD := fun {F H x y z v u Q} al rx ry e q => by
  unfold ltTD at e
  split at e
  · cases e
    exact .inl ⟨_, _, rx.v_int, ry.v_int, q _ _ (Same.refl _) (.bl _)⟩
  · rename_i xs ys
    split at e
    · rename_i ns ms e1 e2
      cases e
      obtain ⟨a, vs, rfl, h1, r1⟩ := rx.v_tup
      obtain ⟨b, ws, rfl, h2, r2⟩ := ry.v_tup
      rw [asInts_of e1] at r1
      rw [asInts_of e2] at r2
      rw [reps_ints r1] at h1
      rw [reps_ints r2] at h2
      exact .inr ⟨a, b, ns, ms, rfl, rfl, h1, h2, q _ _ (Same.refl _) (.bl _)⟩
    · cases e
  · cases e
/-! ### sum -/
def rSumT (K : PySem.W.Frag) : List V → Hp → VK → Prop := fun vs H Q => ∃ (a : Addr) (ns : List Int), vs = [V.ref a] ∧ SqT K H a (ns.map V.int) ∧ Q (.int ns.sum) H
theorem cr_sumT (hc : X.calm = true) : CallR X (.builtin "sum") (rSumT X.K) := by
  intro pins s σ H vs us Q I r h
  obtain ⟨a, ns, rfl, hs, q⟩ := h
  obtain ⟨its, r1, ⟨o, ho, hcl, n, hd⟩, _⟩ := I.tuple hs
  rw [Vals.ref1 r]
  have hl : s.heap.IsTuple a its.toArray := ⟨o, ho, hcl, n, hd⟩
  have hi : IntsAre its.toArray.toList ns := intsAre_of r1
  obtain ⟨xs, hx⟩ := hi.allInts.items
  have hn : numsOf its.toArray.toList = ns := hi.numsOf
  have hx' : its.toArray = intItems xs := by first | exact hx | (rw [← hx])
  rw [hx'] at hl hn
  rw [nums_intItems] at hn
  refine PySem.W.ktm_sumG (I.ok.hd hc) hl fun h' tk t' hk => ?_
  rw [preSum_eq, List.take_of_length_le (by simp), hn]
  exact ⟨.int _, H, I.kept hk, ⟨_, rfl⟩, q⟩
abbrev rSumA (K : PySem.W.Frag) : List V → Hp → VK → Prop := fun vs H Q => rSum K vs H Q ∨ rSumT K vs H Q
theorem cr_sumA (hc : X.calm = true) : CallR X (.builtin "sum") (rSumA X.K) := by
  intro pins s σ H vs us Q I r h
  rcases h with h | h
  · exact cr_sum hc pins s σ H vs us Q I r h
  · exact cr_sumT hc pins s σ H vs us Q I r h
def sumTD : D → Option D
  | .lst xs => (asInts xs).map fun ns => .int ns.sum
  | .tup xs => (asInts xs).map fun ns => .int ns.sum
  | _ => none
theorem sem_sumT : Sem1 X (fun v H Q => rSumA X.K [v] H Q) sumTD := fun {F H x z v Q} al r e q => by
  unfold sumTD at e
  split at e
  · exact .inl (sem_sum (x := .lst _) al r e q)
  · rename_i xs
    cases e1 : asInts xs with
    | none => rw [e1] at e; cases e
    | some ns =>
      rw [e1] at e; cases e
      obtain ⟨a, vs, rfl, h, r⟩ := r.v_tup
      rw [asInts_of e1] at r
      rw [reps_ints r] at h
      exact .inr ⟨a, ns, rfl, h, q _ _ (Same.refl _) (.int _)⟩
  · cases e
/-! ### a text so many times -/
def repS (x : Str) (n : Int) : Str := if n < 1 then Str.empty else if (n == 1 || x.length == 0) = true then x else ⟨(List.replicate n.toNat x.cps).foldl (· ++ ·) #[]⟩
def rRepS : R2 := fun x y H Q => ∃ z n, x = .str z ∧ y = .int n ∧ -1000 ≤ n ∧ n ≤ 1000 ∧ z.length = 1 ∧ Q (.str (repS z n)) H
theorem op_repS : OpR X (binaryOp .Mult) rRepS := by
  intro pins s σ H x y v u Q I rx ry h
  obtain ⟨z, n, rfl, rfl, h1, h2, h3, q⟩ := h
  obtain ⟨t, rfl⟩ := (show ∃ t, v = Value.str z t from rx)
  obtain ⟨t', rfl⟩ := (show ∃ t, u = Value.int n t from ry)
  have hl : ∀ m : Nat, m ≤ 1000 → Builtin.Str.tooLong m = false := fun m hm => by
    unfold Builtin.Str.tooLong
    exact decide_eq_false (by rw [sizeLine_eq]; omega)
  refine P.mul_str (by rw [decide_eq_false (by omega), decide_eq_false (by omega)]; rfl) (fun a b => ?_) (fun a b => hl _ (by rw [h3]; omega)) ?_
  · rw [h3]
    have : (2 ^ 63 - 1 : Int) / n ≥ 1 := by
      refine Int.le_ediv_of_mul_le (by omega) (by omega)
    omega
  · have q' : Q (.str (repS z n)) H := q
    unfold repS at q'
    split
    · rename_i hn
      rw [if_pos hn] at q'
      exact ⟨by decide, .str Str.empty, H, I.tok _, ⟨_, rfl⟩, q'⟩
    · rename_i hn
      rw [if_neg hn] at q'
      split
      · rename_i hm
        rw [if_pos hm] at q'
        exact ⟨.str z, H, I, ⟨_, rfl⟩, q'⟩
      · rename_i hm
        rw [if_neg hm] at q'
        refine ⟨?_, .str _, H, I.tok _, ⟨_, rfl⟩, q'⟩
        have hz : ∀ (m : Nat) (acc a : Array Nat), (List.foldl (· ++ ·) acc (List.replicate m a)).size = acc.size + m * a.size := by
          intro m
          induction m with
          | zero => intro acc a; simp
          | succ m ih => intro acc a; rw [List.replicate_succ, List.foldl_cons, ih, Array.size_append, Nat.succ_mul]; omega
        show (List.foldl (· ++ ·) #[] (List.replicate n.toNat z.cps)).size ≤ sizeLine
        have h3' : z.cps.size = 1 := h3
        rw [hz, h3', sizeLine_eq]
        simp only [Array.size_empty]
        omega
def mulSD : D → D → Option D
  | .str x, .int n => if -1000 ≤ n ∧ n ≤ 1000 ∧ x.length = 1 then some (.str (repS x n)) else none
  | x, y => mulAD x y
abbrev rMulS (K : PySem.W.Frag) : R2 := fun x y H Q => rRepS x y H Q ∨ rMulA K x y H Q
theorem op_mulS : OpR X (binaryOp .Mult) (rMulS X.K) := op_repS.or op_mulA
theorem sem_mulS : Sem2 X (rMulS X.K) mulSD := fun {F H x y z v u Q} al rx ry e q => by
  unfold mulSD at e
  split at e
  · split at e
    · rename_i x n hh
      cases e
      exact .inl ⟨_, _, rx.v_str, ry.v_int, hh.1, hh.2.1, hh.2.2, q _ _ (Same.refl _) (.str _)⟩
    · cases e
  · exact .inr (sem_mulA al rx ry e q)
end
end Z
namespace ZZ
open PySem PySem.Spec PyProof.Rows L2
def iMT (K : PySem.W.Frag) (ta : TA) : TI := fun σ H R => ta σ H fun vs H1 => ∃ a b xs ys, vs = [.ref a, .ref b] ∧ ((SqT K H1 a xs ∧ SqL K H1 b ys ∧ R (ItM K a b) H1) ∨ (SqT K H1 a xs ∧ SqT K H1 b ys ∧ R (RZ.ItzT K a b) H1))
theorem pi_zipMT {X : Cx} {e e2 : Expr} {ta : TA} {p pos tpos : Pos} {elts : List Expr} {kk : Nat} (hg : Gl X "zip") (hm : X.mg "zip" = none) (ha : PA X [e, e2] ta)
    (hs : starEach [e, e2] X.env = (false, eval e X.env) :: starEach [e2] X.env := by rfl) (hpl : (backTo pos (starEach [e2] X.env)).any (·.1) = false := by rfl) :
    PI X (.Tuple elts kk tpos) (.Call (.Name "zip" p) [e, e2] [] pos) (iMT X.K ta) := by
  refine ⟨fun pins s σ H R I h => ?_⟩
  refine Call_ (ld_blt I hg hm PyProof.Rows.boot_zip (PyProof.Rows.callWith_type1 (thn (ha.run pos pins s σ H _ I h) fun us s1 ⟨vs, H1, I1, r1, q1⟩ => ?_) hs hpl))
  obtain ⟨a, b, xs, ys, ex, q1⟩ := q1
  subst ex
  cases r1 with
  | cons r rr =>
    cases rr with
    | cons r' rr =>
      cases rr
      cases r
      cases r'
      have fresh5 : ∀ c, c ∈ [s1.heap.objs.size + 4, s1.heap.objs.size + 2, s1.heap.objs.size + 3, s1.heap.objs.size, s1.heap.objs.size + 1] → FpOk X pins H1 c := fun c hcm => by
        have hle : s1.heap.objs.size ≤ c := by
          simp only [List.mem_cons, List.not_mem_nil, or_false] at hcm
          rcases hcm with rfl | rfl | rfl | rfl | rfl <;> omega
        exact I1.fpOk hle (I1.hok.fresh hle)
      rcases q1 with ⟨hqx, hqy, q⟩ | ⟨hqx, hqy, q⟩
      · obtain ⟨its, rv, p1, _⟩ := I1.tuple hqx
        obtain ⟨its2, rv2, p2, _⟩ := I1.list hqy
        obtain ⟨o1, ho1, _⟩ := id p1
        refine call_zipM (show s1.heap.IsTuple a its.toArray from p1) p2.isList fun h' hz hTI hTO h1 h2 hk => wpAny_pyIter_zip hz ?_
        exact ⟨s1.heap.objs.size + 4, [s1.heap.objs.size + 4, s1.heap.objs.size + 2, s1.heap.objs.size + 3, s1.heap.objs.size, s1.heap.objs.size + 1], _, _, H1, rfl, I1.kept (t' := s1.toks) hk, turnM (PySem.W.ktu_apart s1.heap.objs.size a b (Heap.lt_size ho1) p2.lt), ⟨hz, hTI, ⟨_, _, hTO⟩, h1, h2⟩, fresh5, q⟩
      · obtain ⟨its, rv, p1, _⟩ := I1.tuple hqx
        obtain ⟨its2, rv2, p2, _⟩ := I1.tuple hqy
        obtain ⟨o1, ho1, _⟩ := id p1
        obtain ⟨o2, ho2, _⟩ := id p2
        refine RZ.call_zipT (show s1.heap.IsTuple a its.toArray from p1) (show s1.heap.IsTuple b its2.toArray from p2) fun h' hz hTI hTO h1 h2 hsz hk => wpAny_pyIter_zip hz ?_
        exact ⟨s1.heap.objs.size + 4, [s1.heap.objs.size + 4, s1.heap.objs.size + 2, s1.heap.objs.size + 3, s1.heap.objs.size, s1.heap.objs.size + 1], _, _, H1, rfl, I1.kept (t' := s1.toks) hk, RZ.turn_zipT (PySem.W.ktu_apart s1.heap.objs.size a b (Heap.lt_size ho1) (Heap.lt_size ho2)), ⟨hz, hTI, ⟨_, _, hTO⟩, h1, h2⟩, fresh5, q⟩
end ZZ
namespace Z
open PySem L2
def zipMT : D → D → Option (List D)
  | .tup xs, .lst ys => some (zipL xs ys)
  | .tup xs, .tup ys => some (zipL xs ys)
  | _, _ => none
def mzipTT (f g : M D) : M (List D) := mbind f fun x => mbind g fun y => mopt (zipMT x y)
section
variable {X : Cx} {W : WX}
theorem si_zipMT {f g : M D} {e e2 : Expr} {p pos tpos : Pos} {elts : List Expr} {kk : Nat} (hg : Gl X "zip") (hm : X.mg "zip" = none) (h1 : SE X W f e) (h2 : SE X W g e2)
    (hs : starEach [e, e2] X.env = (false, eval e X.env) :: starEach [e2] X.env := by rfl) (hs2 : starEach [e2] X.env = (false, eval e2 X.env) :: starEach [] X.env := by rfl) (hpl : (backTo pos (starEach [e2] X.env)).any (·.1) = false := by rfl) :
    SI X W (mzipTT f g) (.Tuple elts kk tpos) (.Call (.Name "zip" p) [e, e2] [] pos) := (ZZ.pi_zipMT hg hm (pa_cons h1 (pa_cons h2 pa_nil hs2) hs) hs hpl).imp fun σ H Rk ⟨F0, ρ, R, o⟩ => by
  refine seqE R o fun x ρ1 v H1 R1 S1 r1 o1 => seqE R1 o1 fun y ρ2 u H2 R2 S2 r2 o2 => ?_
  obtain ⟨ds, e, q⟩ := Out.opt o2
  have r1' := S2.rep r1
  unfold zipMT at e
  split at e
  · cases e
    obtain ⟨a, b, rfl, rfl, ⟨xs, hx⟩, ⟨ys, hy⟩, hi⟩ := iters_zipM r1' r2.lk
    exact ⟨a, b, xs, ys, rfl, .inl ⟨hx, hy, q _ H2 R2 (S1.trans S2) hi⟩⟩
  · cases e
    obtain ⟨a, b, rfl, rfl, ⟨xs, hx⟩, ⟨ys, hy⟩, hi⟩ := iters_zipT r1' r2
    exact ⟨a, b, xs, ys, rfl, .inr ⟨hx, hy, q _ H2 R2 (S1.trans S2) hi⟩⟩
  · cases e
end
end Z

/-! Z, the second half: what a run comes to, said backwards (no text in sight) -/
namespace Z
open PySem L2

/-- nothing is raised -/
def noE : Exn → En → Prop := fun _ _ => False
@[irreducible] def wpx {α : Type} (E : Exn → En → Prop) (f : M α) (ρ : En) (Q : α → En → Prop) : Prop := match f ρ with
  | .ok a ρ' => Q a ρ'
  | .exc e ρ' => E e ρ'
  | .bad => False
abbrev wp {α : Type} (f : M α) (ρ : En) (Q : α → En → Prop) : Prop := wpx noE f ρ Q
@[irreducible] def fwpx (E : Exn → En → Prop) (m : Fn) (as : List SV) (Q : RV → En → Prop) : Prop := match m as with
  | .ok x outs => Q x outs
  | .exc e outs => E e outs
  | .bad => False
abbrev fwp (m : Fn) (as : List SV) (Q : RV → En → Prop) : Prop := fwpx noE m as Q
theorem fwp_ok {m : Fn} {as : List SV} {Q : RV → En → Prop} (h : fwp m as Q) : ∃ x outs, m as = .ok x outs ∧ Q x outs := by
  unfold fwp fwpx at h
  cases e : m as with
  | ok x outs => rw [e] at h; exact ⟨x, outs, rfl, h⟩
  | exc x outs => rw [e] at h; exact h.elim
  | bad => rw [e] at h; exact h.elim
variable {E : Exn → En → Prop}
def optQ {α : Type} (o : Option α) (P : α → Prop) : Prop := ∃ x, o = some x ∧ P x
/-- what is read of a slot -/
def getQ (s : Option (Option SV)) (P : D → Prop) : Prop := match s with
  | some (some (.own _ ds)) => P (.lst ds)
  | some (some (.d x)) => P x
  | some (some (.dct x)) => P x
  | _ => False
def ownQ (s : Option (Option SV)) (P : List D → Prop) : Prop := match s with
  | some (some (.own _ ds)) => P ds
  | _ => False
def valQ (s : Option (Option SV)) (P : D → Prop) : Prop := match s with
  | some (some (.d x)) => P x
  | some (some (.own false ds)) => P (.lst ds)
  | some (some (.dct x)) => P x
  | some (some (.tre false es)) => P (.lst (elsD es))
  | _ => False
def valO (s : Option (Option SV)) (P : List D → Prop) : Prop := match s with
  | some (some (.own false ds)) => P ds
  | _ => False
def setQ (s : Option (Option SV)) (P : Prop) : Prop := match s with
  | some (some (.own true _)) => False
  | some (some (.tre true _)) => False
  | some _ => P
  | none => False
def putQ (s : Option (Option SV)) (P : Bool → List D → Prop) : Prop := match s with
  | some (some (.own b ds)) => P b ds
  | _ => False
/-- one of two ways -/
def ifQ (b : Bool) (A B : Prop) : Prop := if b = true then A else B
theorem ifQ_t {A B : Prop} : ifQ true A B ↔ A := by unfold ifQ; simp
theorem ifQ_f {A B : Prop} : ifQ false A B ↔ B := by unfold ifQ; simp
theorem ifQ_of {b : Bool} {A B : Prop} (h1 : b = true → A) (h2 : b = false → B) : ifQ b A B := by
  cases b with
  | true => exact ifQ_t.mpr (h1 rfl)
  | false => exact ifQ_f.mpr (h2 rfl)
theorem ifQ_d {p : Prop} [Decidable p] {A B : Prop} (h1 : p → A) (h2 : ¬ p → B) : ifQ (decide p) A B := ifQ_of (fun h => h1 (of_decide_eq_true h)) fun h => h2 (of_decide_eq_false h)
theorem ifQ_n {p : Prop} [Decidable p] {A B : Prop} (h1 : ¬ p → A) (h2 : p → B) : ifQ (!decide p) A B := ifQ_of (fun h => h1 (by simpa using h)) fun h => h2 (by simpa using h)
section
variable {α β : Type} {f : M α} {g : α → M β} {ρ : En}
theorem wp_mono {Q Q' : α → En → Prop} (h : wpx E f ρ Q) (k : ∀ a ρ', Q a ρ' → Q' a ρ') : wpx E f ρ Q' := by
  unfold wpx at h ⊢
  cases e : f ρ with
  | ok x ρ1 => rw [e] at h; exact k _ _ h
  | exc x ρ1 => rw [e] at h; exact h
  | bad => rw [e] at h; exact h
theorem wp_monoE {E' : Exn → En → Prop} {Q Q' : α → En → Prop} (h : wpx E f ρ Q) (k : ∀ a ρ', Q a ρ' → Q' a ρ') (kE : ∀ a ρ', E a ρ' → E' a ρ') : wpx E' f ρ Q' := by
  unfold wpx at h ⊢
  cases e : f ρ with
  | ok x ρ1 => rw [e] at h; exact k _ _ h
  | exc x ρ1 => rw [e] at h; exact kE _ _ h
  | bad => rw [e] at h; exact h
theorem wp_congr {Q Q' : α → En → Prop} (k : ∀ a ρ', Q a ρ' ↔ Q' a ρ') : wpx E f ρ Q ↔ wpx E f ρ Q' := ⟨fun h => wp_mono h fun a ρ' => (k a ρ').mp, fun h => wp_mono h fun a ρ' => (k a ρ').mpr⟩
theorem fwp_mono {m : Fn} {as : List SV} {Q Q' : RV → En → Prop} (h : fwpx E m as Q) (k : ∀ a ρ', Q a ρ' → Q' a ρ') : fwpx E m as Q' := by
  unfold fwpx at h ⊢
  cases e : m as with
  | ok x ρ1 => rw [e] at h; exact k _ _ h
  | exc x ρ1 => rw [e] at h; exact h
  | bad => rw [e] at h; exact h
theorem fwp_up {m : Fn} {as : List SV} {Q : RV → En → Prop} (h : fwp m as Q) : fwpx E m as Q := by
  unfold fwp fwpx at h
  unfold fwpx
  cases e : m as with
  | ok x ρ1 => rw [e] at h; exact h
  | exc x ρ1 => rw [e] at h; exact h.elim
  | bad => rw [e] at h; exact h
theorem wp_pure {a : α} {Q : α → En → Prop} : wpx E (mpure a) ρ Q ↔ Q a ρ := by unfold wpx; exact Iff.rfl
theorem wp_bad {Q : α → En → Prop} : wpx E (mbad : M α) ρ Q ↔ False := by unfold wpx; exact Iff.rfl
theorem wp_bind {Q : β → En → Prop} : wpx E (mbind f g) ρ Q ↔ wpx E f ρ fun a ρ' => wpx E (g a) ρ' Q := by
  unfold wpx mbind
  cases f ρ <;> exact Iff.rfl
theorem wp_opt {o : Option α} {Q : α → En → Prop} : wpx E (mopt o) ρ Q ↔ optQ o fun x => Q x ρ := by
  unfold wpx
  cases o with
  | none => exact ⟨False.elim, fun ⟨_, e, _⟩ => (by cases e)⟩
  | some x => exact ⟨fun q => ⟨_, rfl, q⟩, fun ⟨_, e, q⟩ => (by cases e; exact q)⟩
theorem optQ_some {x : α} {P : α → Prop} : optQ (some x) P ↔ P x := ⟨fun ⟨_, e, q⟩ => (by cases e; exact q), fun q => ⟨_, rfl, q⟩⟩
theorem optQ_none {P : α → Prop} : optQ (none : Option α) P ↔ False := ⟨fun ⟨_, e, q⟩ => (by cases e), False.elim⟩
theorem optQ_map {o : Option α} {h : α → β} {P : β → Prop} : optQ (o.map h) P ↔ optQ o fun x => P (h x) := by
  cases o with
  | none => exact ⟨fun ⟨_, e, _⟩ => (by cases e), fun ⟨_, e, _⟩ => (by cases e)⟩
  | some x => exact ⟨fun ⟨_, e, q⟩ => (by cases e; exact ⟨_, rfl, q⟩), fun ⟨_, e, q⟩ => (by cases e; exact ⟨_, rfl, q⟩)⟩
theorem wp_get {i : Nat} {Q : D → En → Prop} : wpx E (mget i) ρ Q ↔ getQ ρ[i]? fun x => Q x ρ := by
  unfold wpx mget getQ
  cases ρ[i]? with
  | none => exact Iff.rfl
  | some u => cases u with
    | none => exact Iff.rfl
    | some sv => cases sv with
      | d x => exact Iff.rfl
      | own b ds => cases b <;> exact Iff.rfl
      | ex a => exact Iff.rfl
      | dct x => exact Iff.rfl
      | tre b es => cases b <;> exact Iff.rfl
theorem wp_own {i : Nat} {Q : List D → En → Prop} : wpx E (mown i) ρ Q ↔ ownQ ρ[i]? fun x => Q x ρ := by
  unfold wpx mown ownQ
  cases ρ[i]? with
  | none => exact Iff.rfl
  | some u => cases u with
    | none => exact Iff.rfl
    | some sv => cases sv with
      | d x => exact Iff.rfl
      | own b ds => cases b <;> exact Iff.rfl
      | ex a => exact Iff.rfl
      | dct x => exact Iff.rfl
      | tre b es => cases b <;> exact Iff.rfl
theorem wp_val {i : Nat} {Q : D → En → Prop} : wpx E (mval i) ρ Q ↔ valQ ρ[i]? fun x => Q x (ρ.set i (some (.d x))) := by
  unfold wpx mval valQ
  cases ρ[i]? with
  | none => exact Iff.rfl
  | some u => cases u with
    | none => exact Iff.rfl
    | some sv => cases sv with
      | d x => exact Iff.rfl
      | own b ds => cases b <;> exact Iff.rfl
      | ex a => exact Iff.rfl
      | dct x => exact Iff.rfl
      | tre b es => cases b <;> exact Iff.rfl
theorem wp_store {i : Nat} {u : SV} {Q : Z.Flow → En → Prop} : wpx E (mstore i u) ρ Q ↔ setQ ρ[i]? (Q .nx (ρ.set i (some u))) := by
  unfold wpx mstore setQ
  cases ρ[i]? with
  | none => exact Iff.rfl
  | some u => cases u with
    | none => exact Iff.rfl
    | some sv => cases sv with
      | d x => exact Iff.rfl
      | own b ds => cases b <;> exact Iff.rfl
      | ex a => exact Iff.rfl
      | dct x => exact Iff.rfl
      | tre b es => cases b <;> exact Iff.rfl
theorem wp_gnm {i : Nat} {x : D} {Q : Unit → En → Prop} : wpx E (gnm i x) ρ Q ↔ setQ ρ[i]? (Q () (ρ.set i (some (.d x)))) := by
  unfold wpx gnm setQ
  cases ρ[i]? with
  | none => exact Iff.rfl
  | some u => cases u with
    | none => exact Iff.rfl
    | some sv => cases sv with
      | d x => exact Iff.rfl
      | own b ds => cases b <;> exact Iff.rfl
      | ex a => exact Iff.rfl
      | dct x => exact Iff.rfl
      | tre b es => cases b <;> exact Iff.rfl
theorem wp_put {i : Nat} {h : List D → Option (List D)} {Q : Unit → En → Prop} : wpx E (mput i h) ρ Q ↔ putQ ρ[i]? fun b ds => optQ (h ds) fun ds' => Q () (ρ.set i (some (.own b ds'))) := by
  unfold wpx mput putQ
  cases ρ[i]? with
  | none => exact Iff.rfl
  | some u => cases u with
    | none => exact Iff.rfl
    | some sv => cases sv with
      | d x => exact Iff.rfl
      | ex x => exact Iff.rfl
      | dct x => exact Iff.rfl
      | tre b es => cases b <;> exact Iff.rfl
      | own b ds =>
        simp only
        cases h ds with
        | none => exact ⟨False.elim, fun ⟨_, e, _⟩ => (by cases e)⟩
        | some x => exact ⟨fun q => ⟨_, rfl, q⟩, fun ⟨_, e, q⟩ => (by cases e; exact q)⟩
theorem getQ_d {x : D} {P : D → Prop} : getQ (some (some (.d x))) P ↔ P x := Iff.rfl
theorem getQ_own {b : Bool} {x : List D} {P : D → Prop} : getQ (some (some (.own b x))) P ↔ P (.lst x) := Iff.rfl
theorem ownQ_own {b : Bool} {x : List D} {P : List D → Prop} : ownQ (some (some (.own b x))) P ↔ P x := Iff.rfl
theorem valQ_d {x : D} {P : D → Prop} : valQ (some (some (.d x))) P ↔ P x := Iff.rfl
theorem valQ_own {x : List D} {P : D → Prop} : valQ (some (some (.own false x))) P ↔ P (.lst x) := Iff.rfl
theorem valO_own {x : List D} {P : List D → Prop} : valO (some (some (.own false x))) P ↔ P x := Iff.rfl
theorem setQ_d {x : D} {P : Prop} : setQ (some (some (.d x))) P ↔ P := Iff.rfl
theorem setQ_own {x : List D} {P : Prop} : setQ (some (some (.own false x))) P ↔ P := Iff.rfl
theorem setQ_none {P : Prop} : setQ (some none) P ↔ P := Iff.rfl
theorem putQ_own {b : Bool} {x : List D} {P : Bool → List D → Prop} : putQ (some (some (.own b x))) P ↔ P b x := Iff.rfl
/-! operators -/
variable {sem : D → D → Option D} {p q : M D} {i j : Nat} {Q : D → En → Prop}
theorem wp_op2vv : wpx E (mop2 sem (.val p) (.val q)) ρ Q ↔ wpx E p ρ fun x ρ1 => wpx E q ρ1 fun y ρ2 => optQ (sem x y) fun z => Q z ρ2 := by simp only [mop2, wp_bind, wp_opt]
theorem wp_op2sv : wpx E (mop2 sem (.slot i) (.val q)) ρ Q ↔ getQ ρ[i]? fun _ => wpx E q ρ fun y ρ2 => getQ ρ2[i]? fun x => optQ (sem x y) fun z => Q z ρ2 := by simp only [mop2, wp_bind, wp_opt, wp_get]
theorem wp_op2vs : wpx E (mop2 sem (.val p) (.slot j)) ρ Q ↔ wpx E p ρ fun x ρ1 => getQ ρ1[j]? fun y => optQ (sem x y) fun z => Q z ρ1 := by simp only [mop2, wp_bind, wp_opt, wp_get]
theorem wp_op2ss : wpx E (mop2 sem (.slot i) (.slot j)) ρ Q ↔ getQ ρ[i]? fun x => getQ ρ[j]? fun y => optQ (sem x y) fun z => Q z ρ := by simp only [mop2, wp_bind, wp_opt, wp_get]
variable {sem1 : D → Option D} {semF : D → D → Option (List D)} {sem1F : D → Option (List D)} {QF : List D → En → Prop}
theorem wp_op1v : wpx E (mop1 sem1 (.val p)) ρ Q ↔ wpx E p ρ fun x ρ1 => optQ (sem1 x) fun z => Q z ρ1 := by simp only [mop1, wp_bind, wp_opt]
theorem wp_op1s : wpx E (mop1 sem1 (.slot i)) ρ Q ↔ getQ ρ[i]? fun x => optQ (sem1 x) fun z => Q z ρ := by simp only [mop1, wp_bind, wp_opt, wp_get]
theorem wp_op2Fvv : wpx E (mop2F semF (.val p) (.val q)) ρ QF ↔ wpx E p ρ fun x ρ1 => wpx E q ρ1 fun y ρ2 => optQ (semF x y) fun z => QF z ρ2 := by simp only [mop2F, wp_bind, wp_opt]
theorem wp_op2Fsv : wpx E (mop2F semF (.slot i) (.val q)) ρ QF ↔ getQ ρ[i]? fun _ => wpx E q ρ fun y ρ2 => getQ ρ2[i]? fun x => optQ (semF x y) fun z => QF z ρ2 := by simp only [mop2F, wp_bind, wp_opt, wp_get]
theorem wp_op2Fvs : wpx E (mop2F semF (.val p) (.slot j)) ρ QF ↔ wpx E p ρ fun x ρ1 => getQ ρ1[j]? fun y => optQ (semF x y) fun z => QF z ρ1 := by simp only [mop2F, wp_bind, wp_opt, wp_get]
theorem wp_op2Fss : wpx E (mop2F semF (.slot i) (.slot j)) ρ QF ↔ getQ ρ[i]? fun x => getQ ρ[j]? fun y => optQ (semF x y) fun z => QF z ρ := by simp only [mop2F, wp_bind, wp_opt, wp_get]
theorem wp_op1Fv : wpx E (mop1F sem1F (.val p)) ρ QF ↔ wpx E p ρ fun x ρ1 => optQ (sem1F x) fun z => QF z ρ1 := by simp only [mop1F, wp_bind, wp_opt]
theorem wp_op1Fs : wpx E (mop1F sem1F (.slot i)) ρ QF ↔ getQ ρ[i]? fun x => optQ (sem1F x) fun z => QF z ρ := by simp only [mop1F, wp_bind, wp_opt, wp_get]
variable {c c' : M Bool} {QB : Bool → En → Prop}
theorem wp_bool : wpx E (mbool p) ρ QB ↔ wpx E p ρ fun x ρ1 => optQ (toB x) fun b => QB b ρ1 := by simp only [mbool, wp_bind, wp_opt]
theorem wp_truv : wpx E (mtru (.val p)) ρ QB ↔ wpx E p ρ fun x ρ1 => optQ (truD x) fun b => QB b ρ1 := by simp only [mtru, wp_bind, wp_opt]
theorem wp_trus : wpx E (mtru (.slot i)) ρ QB ↔ getQ ρ[i]? fun x => optQ (truD x) fun b => QB b ρ := by simp only [mtru, wp_bind, wp_opt, wp_get]
theorem wp_ite {C : Prop} [Decidable C] {f g : M α} {Q : α → En → Prop} : wpx E (if C then f else g) ρ Q ↔ if C then wpx E f ρ Q else wpx E g ρ Q := by split <;> rfl
theorem wp_and : wpx E (mand c c') ρ QB ↔ wpx E c ρ fun b ρ1 => ifQ b (wpx E c' ρ1 QB) (QB false ρ1) := by simp only [mand, wp_bind, wp_ite, wp_pure, ifQ]
theorem wp_or : wpx E (mor c c') ρ QB ↔ wpx E c ρ fun b ρ1 => ifQ b (QB true ρ1) (wpx E c' ρ1 QB) := by simp only [mor, wp_bind, wp_ite, wp_pure, ifQ]
theorem wp_not : wpx E (mnot c) ρ QB ↔ wpx E c ρ fun b ρ1 => QB (!b) ρ1 := by simp only [mnot, wp_bind, wp_pure]
theorem wp_andV : wpx E (mandV p q) ρ Q ↔ wpx E p ρ fun x ρ1 => optQ (toB x) fun b => ifQ b (wpx E q ρ1 Q) (Q (.bl false) ρ1) := by simp only [mandV, wp_bind, wp_opt, wp_ite, wp_pure, ifQ]
theorem wp_orV : wpx E (morV p q) ρ Q ↔ wpx E p ρ fun x ρ1 => optQ (toB x) fun b => ifQ b (Q (.bl true) ρ1) (wpx E q ρ1 Q) := by simp only [morV, wp_bind, wp_opt, wp_ite, wp_pure, ifQ]
theorem wp_notV : wpx E (mnotV p) ρ Q ↔ wpx E p ρ fun x ρ1 => optQ (toB x) fun b => Q (.bl (!b)) ρ1 := by simp only [mnotV, wp_bind, wp_opt, wp_pure]
theorem wp_if {f g : M α} {Q : α → En → Prop} : wpx E (mif c f g) ρ Q ↔ wpx E c ρ fun b ρ1 => ifQ b (wpx E f ρ1 Q) (wpx E g ρ1 Q) := by simp only [mif, wp_bind, wp_ite, ifQ]
variable {fs : M (List D)}
theorem wp_cons : wpx E (mcons p fs) ρ QF ↔ wpx E p ρ fun x ρ1 => wpx E fs ρ1 fun xs ρ2 => QF (x :: xs) ρ2 := by simp only [mcons, wp_bind, wp_pure]
theorem wp_tup : wpx E (mtup fs) ρ Q ↔ wpx E fs ρ fun xs ρ1 => xs.length ≤ 1000 ∧ Q (.tup xs) ρ1 := by
  simp only [mtup, wp_bind, wp_ite, wp_pure, wp_bad]
  constructor <;> refine fun h => wp_mono h fun xs ρ1 h => ?_
  · split at h
    · exact ⟨by assumption, h⟩
    · exact h.elim
  · rw [if_pos h.1]; exact h.2
theorem wp_lst : wpx E (mlst fs) ρ QF ↔ wpx E fs ρ fun xs ρ1 => xs.length ≤ 1000 ∧ QF xs ρ1 := by
  simp only [mlst, wp_bind, wp_ite, wp_pure, wp_bad]
  constructor <;> refine fun h => wp_mono h fun xs ρ1 h => ?_
  · split at h
    · exact ⟨by assumption, h⟩
    · exact h.elim
  · rw [if_pos h.1]; exact h.2
theorem wp_rng {sm : List D → Option (List D)} : wpx E (mrng sm fs) ρ QF ↔ wpx E fs ρ fun xs ρ1 => optQ (sm xs) fun ds => QF ds ρ1 := by simp only [mrng, wp_bind, wp_opt]
theorem wp_items : wpx E (mitems p) ρ QF ↔ wpx E p ρ fun x ρ1 => optQ (itemsD x) fun ds => QF ds ρ1 := by simp only [mitems, wp_bind, wp_opt]
theorem wp_rev : wpx E (mrev p) ρ QF ↔ wpx E p ρ fun x ρ1 => optQ (itemsD x) fun ds => QF ds.reverse ρ1 := by simp only [mrev, wp_bind, wp_opt, optQ_map]
/-! slices -/
variable {lo hi : M (Option Int)}
theorem wp_cutv : wpx E (mcut (.val p) lo hi) ρ Q ↔ wpx E p ρ fun x ρ1 => wpx E lo ρ1 fun l ρ2 => wpx E hi ρ2 fun u ρ3 => optQ (cutT x l u) fun z => Q z ρ3 := by simp only [mcut, wp_bind, wp_opt]
theorem wp_cuts : wpx E (mcut (.slot i) lo hi) ρ Q ↔ getQ ρ[i]? fun _ => wpx E lo ρ fun l ρ2 => wpx E hi ρ2 fun u ρ3 => getQ ρ3[i]? fun x => optQ (cutT x l u) fun z => Q z ρ3 := by simp only [mcut, wp_bind, wp_get, wp_opt]
theorem wp_cutLv : wpx E (mcutL (.val p) lo hi) ρ QF ↔ wpx E p ρ fun x ρ1 => wpx E lo ρ1 fun l ρ2 => wpx E hi ρ2 fun u ρ3 => optQ (cutLL x l u) fun z => QF z ρ3 := by simp only [mcutL, wp_bind, wp_opt]
theorem wp_cutLs : wpx E (mcutL (.slot i) lo hi) ρ QF ↔ getQ ρ[i]? fun _ => wpx E lo ρ fun l ρ2 => wpx E hi ρ2 fun u ρ3 => getQ ρ3[i]? fun x => optQ (cutLL x l u) fun z => QF z ρ3 := by simp only [mcutL, wp_bind, wp_get, wp_opt]
theorem cutT_tup {xs : List D} {l u : Option Int} : cutT (.tup xs) l u = some (.tup (cutG xs l u)) := rfl
theorem cutLL_lst {xs : List D} {l u : Option Int} : cutLL (.lst xs) l u = some (cutG xs l u) := rfl
theorem cutLL_kls {xs : List D} {l u : Option Int} : cutLL (.kls xs) l u = some (cutG xs l u) := rfl
theorem toI_int {n : Int} : toI (.int n) = some n := rfl
/-! statements -/
variable {s k : M Z.Flow} {QS : Z.Flow → En → Prop}
/-- what is wanted behind a statement, where it comes to its end -/
def seqQ (fl : Z.Flow) (P : Prop) (R : Prop) : Prop := match fl with
  | .nx => P
  | _ => R
theorem wp_seq : wpx E (mseq s k) ρ QS ↔ wpx E s ρ fun fl ρ1 => seqQ fl (wpx E k ρ1 QS) (QS fl ρ1) := by
  unfold wpx mseq
  cases s ρ with
  | ok fl ρ1 => cases fl <;> exact Iff.rfl
  | exc x ρ1 => exact Iff.rfl
  | bad => exact Iff.rfl
theorem seqQ_nx {P R : Prop} : seqQ .nx P R ↔ P := Iff.rfl
theorem seqQ_rt {x : D} {P R : Prop} : seqQ (.rt x) P R ↔ R := Iff.rfl
theorem seqQ_rf {x : List D} {P R : Prop} : seqQ (.rf x) P R ↔ R := Iff.rfl
theorem seqQ_bk {P R : Prop} : seqQ .bk P R ↔ R := Iff.rfl
theorem seqQ_ct {P R : Prop} : seqQ .ct P R ↔ R := Iff.rfl
theorem wp_nx : wpx E mnx ρ QS ↔ QS .nx ρ := wp_pure
theorem wp_do : wpx E (mdo f) ρ QS ↔ wpx E f ρ fun _ ρ1 => QS .nx ρ1 := by simp only [mdo, wp_bind, wp_pure]
theorem wp_ret : wpx E (mret p) ρ QS ↔ wpx E p ρ fun x ρ1 => QS (.rt x) ρ1 := by simp only [mret, wp_bind, wp_pure]
theorem wp_retF : wpx E (mretF fs) ρ QS ↔ wpx E fs ρ fun x ρ1 => QS (.rf x) ρ1 := by simp only [mretF, wp_bind, wp_pure]
theorem wp_retO : wpx E (mretO i) ρ QS ↔ valO ρ[i]? fun ds => QS (.rf ds) (ρ.set i none) := by
  unfold wpx mretO valO
  cases ρ[i]? with
  | none => exact Iff.rfl
  | some u => cases u with
    | none => exact Iff.rfl
    | some sv => cases sv with
      | d x => exact Iff.rfl
      | own b ds => cases b <;> exact Iff.rfl
      | ex a => exact Iff.rfl
      | dct x => exact Iff.rfl
      | tre b es => cases b <;> exact Iff.rfl
theorem wp_set : wpx E (mset i p) ρ QS ↔ wpx E p ρ fun x ρ1 => setQ ρ1[i]? (QS .nx (ρ1.set i (some (.d x)))) := by simp only [mset, wp_bind, wp_store]
theorem wp_setF : wpx E (msetF i fs) ρ QS ↔ wpx E fs ρ fun x ρ1 => setQ ρ1[i]? (QS .nx (ρ1.set i (some (.own false x)))) := by simp only [msetF, wp_bind, wp_store]
theorem wp_ifS : wpx E (mifS c s k) ρ QS ↔ wpx E c ρ fun b ρ1 => ifQ b (wpx E s ρ1 QS) (wpx E k ρ1 QS) := by simp only [mifS, wp_bind, wp_ite, ifQ]
theorem wp_setIx : wpx E (msetIx i p q) ρ QS ↔ wpx E q ρ fun x ρ1 => ownQ ρ1[i]? fun _ => wpx E p ρ1 fun y ρ2 => ownQ ρ2[i]? fun ds => optQ (setIxD ds y x) fun ds' => putQ ρ2[i]? fun b _ => QS .nx (ρ2.set i (some (.own b ds'))) := by
  simp only [msetIx, wp_do, wp_bind, wp_own, wp_opt, wp_put, wp_pure, optQ_some]
variable {sm1 : List D → D → Option (D × List D)} {sm0 : List D → Option (D × List D)}
theorem wp_meth1 : wpx E (mmeth1 i sm1 p) ρ Q ↔ ownQ ρ[i]? fun _ => wpx E p ρ fun x ρ1 => ownQ ρ1[i]? fun ds => optQ (sm1 ds x) fun z => putQ ρ1[i]? fun b _ => Q z.1 (ρ1.set i (some (.own b z.2))) := by
  simp only [mmeth1, wp_bind, wp_own, wp_opt, wp_put, wp_pure, optQ_some]
theorem wp_meth0 : wpx E (mmeth0 i sm0) ρ Q ↔ ownQ ρ[i]? fun ds => optQ (sm0 ds) fun z => putQ ρ[i]? fun b _ => Q z.1 (ρ.set i (some (.own b z.2))) := by
  simp only [mmeth0, wp_bind, wp_own, wp_opt, wp_put, wp_pure, optQ_some]
/-- a target stored, then .. -/
theorem wp_asg {t : D → M Unit} : wpx E (masg p t) ρ QS ↔ wpx E p ρ fun x ρ1 => wp (t x) ρ1 fun _ ρ2 => QS .nx ρ2 := by
  simp only [masg, wp_bind]
  refine wp_congr fun x ρ1 => ?_
  unfold wp wpx noE
  dsimp only
  cases t x ρ1 <;> exact Iff.rfl
theorem wp_gnil {Qu : Unit → En → Prop} : wpx E (gnil []) ρ Qu ↔ Qu () ρ := wp_pure
theorem wp_gcons {t : D → M Unit} {u : List D → M Unit} {x : D} {r : List D} {Qu : Unit → En → Prop} : wpx E (gcons t u (x :: r)) ρ Qu ↔ wpx E (t x) ρ fun _ ρ1 => wpx E (u r) ρ1 Qu := by simp only [gcons, wp_bind]
theorem wp_gtup {n : Nat} {t : List D → M Unit} {xs : List D} {Qu : Unit → En → Prop} : wpx E (gtup n t (.tup xs)) ρ Qu ↔ xs.length = n ∧ wpx E (t xs) ρ Qu := by
  simp only [gtup, wp_ite, wp_bad]
  constructor
  · intro h; split at h
    · exact ⟨by assumption, h⟩
    · exact h.elim
  · rintro ⟨h1, h2⟩; rw [if_pos h1]; exact h2
/-! loops -/
variable {t : D → M Unit} {b : M Z.Flow}
/-- behind a turn -/
def turnQ (fl : Z.Flow) (P : Prop) (B : Prop) (R : Prop) : Prop := match fl with
  | .nx => P
  | .ct => P
  | .bk => B
  | _ => R
theorem wp_forS : wpx E (mforS fs t b) ρ QS ↔ wpx E fs ρ fun ds ρ1 => wpx E (mfor t b ds) ρ1 QS := by simp only [mforS, wp_bind]
theorem wp_for_nil : wpx E (mfor t b []) ρ QS ↔ QS .nx ρ := wp_pure
theorem wp_for_cons {x : D} {r : List D} : wpx E (mfor t b (x :: r)) ρ QS ↔ wp (t x) ρ fun _ ρ1 => wpx E b ρ1 fun fl ρ2 => turnQ fl (wpx E (mfor t b r) ρ2 QS) (QS .nx ρ2) (QS fl ρ2) := by
  unfold wp wpx noE
  rw [mfor]
  dsimp only
  cases t x ρ with
  | bad => exact Iff.rfl
  | exc z ρ1 => exact Iff.rfl
  | ok u ρ1 =>
    dsimp only
    cases b ρ1 with
    | bad => exact Iff.rfl
    | exc z ρ2 => exact Iff.rfl
    | ok fl ρ2 => cases fl <;> exact Iff.rfl
/-- an invariant over what is done and what is left -/
theorem wp_for (I : List D → List D → En → Prop) (ds : List D) (h0 : I [] ds ρ)
    (hs : ∀ pre x post ρ, ds = pre ++ x :: post → I pre (x :: post) ρ → wp (t x) ρ fun _ ρ1 => wpx E b ρ1 fun fl ρ2 => turnQ fl (I (pre ++ [x]) post ρ2) (QS .nx ρ2) (QS fl ρ2))
    (hd : ∀ ρ, I ds [] ρ → QS .nx ρ) : wpx E (mfor t b ds) ρ QS := by
  have key : ∀ (post pre : List D) (ρ : En), ds = pre ++ post → I pre post ρ → wpx E (mfor t b post) ρ QS := by
    intro post
    induction post with
    | nil => intro pre ρ e h; rw [List.append_nil] at e; subst e; exact wp_for_nil.mpr (hd ρ h)
    | cons x post ih =>
      intro pre ρ e h
      refine wp_for_cons.mpr (wp_mono (hs pre x post ρ e h) fun _ ρ1 h1 => wp_mono h1 fun fl ρ2 h2 => ?_)
      have e' : ds = (pre ++ [x]) ++ post := by rw [e]; simp
      cases fl with
      | nx => exact ih _ ρ2 e' h2
      | ct => exact ih _ ρ2 e' h2
      | bk => exact h2
      | rt z => exact h2
      | rf z => exact h2
      | rtr z => exact h2
  exact key ds [] ρ rfl h0
theorem turnQ_nx {P B R : Prop} : turnQ .nx P B R ↔ P := Iff.rfl
theorem turnQ_ct {P B R : Prop} : turnQ .ct P B R ↔ P := Iff.rfl
theorem turnQ_bk {P B R : Prop} : turnQ .bk P B R ↔ B := Iff.rfl
theorem turnQ_rt {x : D} {P B R : Prop} : turnQ (.rt x) P B R ↔ R := Iff.rfl
theorem turnQ_rf {x : List D} {P B R : Prop} : turnQ (.rf x) P B R ↔ R := Iff.rfl
theorem wp_while_succ {n : Nat} : wpx E (mwhile c b (n + 1)) ρ QS ↔ wpx E c ρ fun cc ρ1 => ifQ cc (wpx E b ρ1 fun fl ρ2 => turnQ fl (wpx E (mwhile c b n) ρ2 QS) (QS .nx ρ2) (QS fl ρ2)) (QS .nx ρ1) := by
  have e0 : mwhile c b (n + 1) = mbind c fun cc => if cc = true then fun ρ => match b ρ with
      | .ok .nx ρ2 => mwhile c b n ρ2
      | .ok .ct ρ2 => mwhile c b n ρ2
      | .ok .bk ρ2 => .ok .nx ρ2
      | o => o
    else mnx := rfl
  rw [e0, wp_bind]
  refine wp_congr fun cc ρ1 => ?_
  cases cc with
  | false => rw [ifQ_f]; unfold wpx; exact Iff.rfl
  | true =>
    rw [ifQ_t, if_pos rfl]
    unfold wpx
    simp only
    cases b ρ1 with
    | bad => exact Iff.rfl
    | exc z ρ2 => exact Iff.rfl
    | ok fl ρ2 => cases fl <;> exact Iff.rfl
/-- a while by an invariant and a measure -/
theorem wp_while (I : Nat → En → Prop) {n m : Nat} (hm : m < n) (h0 : I m ρ)
    (hs : ∀ m ρ, I m ρ → wpx E c ρ fun cc ρ1 => ifQ cc (wpx E b ρ1 fun fl ρ2 => turnQ fl (∃ m', m' < m ∧ I m' ρ2) (QS .nx ρ2) (QS fl ρ2)) (QS .nx ρ1)) : wpx E (mwhile c b n) ρ QS := by
  induction n generalizing m ρ with
  | zero => omega
  | succ n ih =>
    refine wp_while_succ.mpr (wp_mono (hs m ρ h0) fun cc ρ1 h => ?_)
    cases cc with
    | false => exact h
    | true =>
      rw [ifQ_t] at h ⊢
      refine wp_mono h fun fl ρ2 h2 => ?_
      cases fl with
      | nx => obtain ⟨m', h3, h4⟩ := h2; exact ih (m := m') (by omega) h4
      | ct => obtain ⟨m', h3, h4⟩ := h2; exact ih (m := m') (by omega) h4
      | bk => exact h2
      | rt z => exact h2
      | rf z => exact h2
      | rtr z => exact h2
/-! calls -/
variable {m : Fn} {args : List Arg} {Qa : List SV → En → Prop}
theorem wp_args_nil : wpx E (margs []) ρ Qa ↔ Qa [] ρ := wp_pure
theorem wp_args_d {r : List Arg} : wpx E (margs (.d p :: r)) ρ Qa ↔ wpx E p ρ fun x ρ1 => wpx E (margs r) ρ1 fun xs ρ2 => Qa (.d x :: xs) ρ2 := by simp only [margs, wp_bind, wp_pure]
theorem wp_args_tmp {r : List Arg} : wpx E (margs (.tmp fs :: r)) ρ Qa ↔ wpx E fs ρ fun x ρ1 => wpx E (margs r) ρ1 fun xs ρ2 => Qa (.own true x :: xs) ρ2 := by simp only [margs, wp_bind, wp_pure]
/-- what is lent of a slot -/
def lendQ (s : Option (Option SV)) (P : SV → Prop) : Prop := match s with
  | some (some (.own _ ds)) => P (.own true ds)
  | some (some (.tre _ es)) => P (.tre true es)
  | _ => False
theorem lendQ_own {b : Bool} {x : List D} {P : SV → Prop} : lendQ (some (some (.own b x))) P ↔ P (.own true x) := Iff.rfl
theorem lendQ_tre {b : Bool} {x : List El} {P : SV → Prop} : lendQ (some (some (.tre b x))) P ↔ P (.tre true x) := Iff.rfl
theorem wp_lend {i : Nat} {Q : SV → En → Prop} : wpx E (mlend i) ρ Q ↔ lendQ ρ[i]? fun x => Q x ρ := by
  unfold wpx mlend lendQ
  cases ρ[i]? with
  | none => exact Iff.rfl
  | some u => cases u with
    | none => exact Iff.rfl
    | some sv => cases sv <;> exact Iff.rfl
theorem wp_args_io {r : List Arg} : wpx E (margs (.io j :: r)) ρ Qa ↔ lendQ ρ[j]? fun _ => wpx E (margs r) ρ fun xs ρ2 => lendQ ρ2[j]? fun w => Qa (w :: xs) ρ2 := by simp only [margs, wp_bind, wp_lend, wp_pure]
def rvD (x : RV) (P : D → Prop) : Prop := match x with
  | .d x => P x
  | _ => False
def rvF (x : RV) (P : List D → Prop) : Prop := match x with
  | .fresh x => P x
  | _ => False
theorem rvD_d {x : D} {P : D → Prop} : rvD (.d x) P ↔ P x := Iff.rfl
theorem rvF_f {x : List D} {P : List D → Prop} : rvF (.fresh x) P ↔ P x := Iff.rfl
theorem wp_call : wpx E (mcall m args) ρ Q ↔ wpx E (margs args) ρ fun svs ρ1 => fwpx (fun ex outs => optQ (wback args outs ρ1) fun ρ2 => E ex ρ2) m svs fun rv outs => rvD rv fun x => optQ (wback args outs ρ1) fun ρ2 => Q x ρ2 := by
  simp only [mcall, wp_bind]
  refine wp_congr fun svs ρ1 => ?_
  unfold wpx fwpx
  simp only
  cases m svs with
  | bad => exact Iff.rfl
  | exc z outs =>
    simp only
    cases wback args outs ρ1 with
    | none => exact ⟨False.elim, fun ⟨_, e, _⟩ => (by cases e)⟩
    | some x => exact ⟨fun q => ⟨_, rfl, q⟩, fun ⟨_, e, q⟩ => (by cases e; exact q)⟩
  | ok rv outs =>
    cases rv with
    | fresh ds => exact Iff.rfl
    | ftr ds => exact Iff.rfl
    | d y =>
      simp only [rvD]
      cases wback args outs ρ1 with
      | none => exact ⟨False.elim, fun ⟨_, e, _⟩ => (by cases e)⟩
      | some x => exact ⟨fun q => ⟨_, rfl, q⟩, fun ⟨_, e, q⟩ => (by cases e; exact q)⟩
theorem wp_callF : wpx E (mcallF m args) ρ QF ↔ wpx E (margs args) ρ fun svs ρ1 => fwpx (fun ex outs => optQ (wback args outs ρ1) fun ρ2 => E ex ρ2) m svs fun rv outs => rvF rv fun x => optQ (wback args outs ρ1) fun ρ2 => QF x ρ2 := by
  simp only [mcallF, wp_bind]
  refine wp_congr fun svs ρ1 => ?_
  unfold wpx fwpx
  simp only
  cases m svs with
  | bad => exact Iff.rfl
  | exc z outs =>
    simp only
    cases wback args outs ρ1 with
    | none => exact ⟨False.elim, fun ⟨_, e, _⟩ => (by cases e)⟩
    | some x => exact ⟨fun q => ⟨_, rfl, q⟩, fun ⟨_, e, q⟩ => (by cases e; exact q)⟩
  | ok rv outs =>
    cases rv with
    | d y => exact Iff.rfl
    | ftr ds => exact Iff.rfl
    | fresh ds =>
      simp only [rvF]
      cases wback args outs ρ1 with
      | none => exact ⟨False.elim, fun ⟨_, e, _⟩ => (by cases e)⟩
      | some x => exact ⟨fun q => ⟨_, rfl, q⟩, fun ⟨_, e, q⟩ => (by cases e; exact q)⟩
def endQ (fl : Z.Flow) (P : RV → Prop) : Prop := match fl with
  | .nx => P (.d .non)
  | .rt x => P (.d x)
  | .rf ds => P (.fresh ds)
  | .rtr ts => P (.ftr ts)
  | _ => False
theorem endQ_nx {P : RV → Prop} : endQ .nx P ↔ P (.d .non) := Iff.rfl
theorem endQ_rt {x : D} {P : RV → Prop} : endQ (.rt x) P ↔ P (.d x) := Iff.rfl
theorem endQ_rf {x : List D} {P : RV → Prop} : endQ (.rf x) P ↔ P (.fresh x) := Iff.rfl
theorem fwp_run {n : Nat} {as : List SV} {Qf : RV → En → Prop} : fwpx E (runBody n b) as Qf ↔ wpx (fun ex ρ => E ex (ρ.take as.length)) b (as.map some ++ List.replicate (n - as.length) none) fun fl ρ => endQ fl fun x => Qf x (ρ.take as.length) := by
  unfold wpx fwpx runBody
  cases b (as.map some ++ List.replicate (n - as.length) none) with
  | bad => exact Iff.rfl
  | exc z outs => exact Iff.rfl
  | ok fl outs => cases fl <;> exact Iff.rfl
end
/-! the answers of operators -/
theorem add_int {i j : Int} : addD (.int i) (.int j) = some (.int (i + j)) := rfl
theorem add_tup {i j : List D} (h : i.length + j.length ≤ sizeLine) : addD (.tup i) (.tup j) = some (.tup (i ++ j)) := by simp only [addD]; rw [if_pos h]
theorem add_str {i j : Str} (h : i.length + j.length ≤ sizeLine) : addD (.str i) (.str j) = some (.str (i ++ j)) := by simp only [addD]; rw [if_pos h]
theorem sub_int {i j : Int} : subD (.int i) (.int j) = some (.int (i - j)) := rfl
theorem mul_l {i j : Int} (h1 : -18446744073709551616 < i) (h2 : i < 18446744073709551616) : mulD (.int i) (.int j) = some (.int (i * j)) := by
  have : mulOk i j = true := by simp only [mulOk, Bool.or_eq_true, Bool.and_eq_true, decide_eq_true_eq]; left; constructor <;> omega
  simp only [mulD, this, if_true]
theorem mul_r {i j : Int} (h1 : -18446744073709551616 < j) (h2 : j < 18446744073709551616) : mulD (.int i) (.int j) = some (.int (i * j)) := by
  have : mulOk i j = true := by simp only [mulOk, Bool.or_eq_true, Bool.and_eq_true, decide_eq_true_eq]; right; constructor <;> omega
  simp only [mulD, this, if_true]
theorem div_int {i j : Int} (h : 0 < j) (h2 : j < 1073741824) : divD (.int i) (.int j) = some (.int (i / j)) := by simp only [divD]; rw [if_pos ⟨h, h2⟩]
theorem mod_int {i j : Int} (h : 0 < j) : modD (.int i) (.int j) = some (.int (i % j)) := by simp only [modD]; rw [if_pos h]
theorem shr_int {i j : Int} (h : 0 ≤ j) : shrD (.int i) (.int j) = some (.int (i / 2 ^ j.toNat)) := by simp only [shrD]; rw [if_pos h]
theorem shl_int {i j : Int} (h : 0 ≤ j) (h1 : j ≤ 1000000) (h2 : i.natAbs < 18446744073709551616) : shlD (.int i) (.int j) = some (.int (i * 2 ^ j.toNat)) := by
  have : powOk i j = true := by simp only [powOk, Bool.and_eq_true, decide_eq_true_eq]; refine ⟨⟨h, h1⟩, ?_⟩; omega
  simp only [shlD, this, if_true]
theorem pow_int {i j : Int} (h : 0 ≤ j) (h1 : j ≤ 1000000) (h2 : i.natAbs < 18446744073709551616) : powD (.int i) (.int j) = some (.int (i ^ j.toNat)) := by
  have : powOk i j = true := by simp only [powOk, Bool.and_eq_true, decide_eq_true_eq]; refine ⟨⟨h, h1⟩, ?_⟩; omega
  simp only [powD, this, if_true]
theorem and_int {i j : Int} : andD (.int i) (.int j) = some (.int (Builtin.bitAnd i j)) := rfl
theorem or_int {i j : Int} : orD (.int i) (.int j) = some (.int (Builtin.bitOr i j)) := rfl
theorem xor_int {i j : Int} : xorD (.int i) (.int j) = some (.int (Builtin.bitXor i j)) := rfl
theorem neg_int {i : Int} : negD (.int i) = some (.int (-i)) := rfl
theorem eq_int {i j : Int} : eqD (.int i) (.int j) = some (.bl (decide (i = j))) := rfl
theorem eq_str {i j : Str} : eqD (.str i) (.str j) = some (.bl (decide (i = j))) := rfl
theorem eq_bl {i j : Bool} : eqD (.bl i) (.bl j) = some (.bl (decide (i = j))) := rfl
theorem ne_int {i j : Int} : neD (.int i) (.int j) = some (.bl (!decide (i = j))) := rfl
theorem ne_str {i j : Str} : neD (.str i) (.str j) = some (.bl (!decide (i = j))) := rfl
theorem ne_bl {i j : Bool} : neD (.bl i) (.bl j) = some (.bl (!decide (i = j))) := rfl
theorem lt_int {i j : Int} : ltD (.int i) (.int j) = some (.bl (decide (i < j))) := rfl
theorem le_int {i j : Int} : leD (.int i) (.int j) = some (.bl (decide (i ≤ j))) := rfl
theorem gt_int {i j : Int} : gtD (.int i) (.int j) = some (.bl (decide (j < i))) := rfl
theorem ge_int {i j : Int} : geD (.int i) (.int j) = some (.bl (decide (j ≤ i))) := rfl
theorem isN {x : D} : isND x .non = some (.bl (isNonD x)) := by cases x <;> rfl
theorem notN {x : D} : notND x .non = some (.bl (!isNonD x)) := by cases x <;> rfl
theorem toB_bl {b : Bool} : toB (.bl b) = some b := rfl
theorem len_tup {xs : List D} : lenD (.tup xs) = some (.int xs.length) := rfl
theorem len_lst {xs : List D} : lenD (.lst xs) = some (.int xs.length) := rfl
theorem len_kls {xs : List D} : lenD (.kls xs) = some (.int xs.length) := rfl
theorem int_int {i : Int} : intD (.int i) = some (.int i) := rfl
theorem int_bl {b : Bool} : intD (.bl b) = some (.int (if b then 1 else 0)) := rfl
theorem tuple_lst {xs : List D} : tupleD (.lst xs) = some (.tup xs) := rfl
theorem tuple_tup {xs : List D} : tupleD (.tup xs) = some (.tup xs) := rfl
theorem list_lst {xs : List D} : listD (.lst xs) = some xs := rfl
theorem list_tup {xs : List D} : listD (.tup xs) = some xs := rfl
theorem max2_int {i j : Int} : max2D (.int i) (.int j) = some (.int (max i j)) := by simp only [max2D]; congr 2; split <;> omega
theorem min2_int {i j : Int} : min2D (.int i) (.int j) = some (.int (min i j)) := by simp only [min2D]; congr 2; split <;> omega
theorem abs_int {i : Int} : absD (.int i) = some (.int (if i < 0 then -i else i)) := rfl
theorem idx_tup {xs : List D} {i : Int} : idxD (.tup xs) (.int i) = atI xs i := rfl
theorem idx_lst {xs : List D} {i : Int} : idxD (.lst xs) (.int i) = atI xs i := rfl
theorem idx_kls {xs : List D} {i : Int} : idxD (.kls xs) (.int i) = atI xs i := rfl
theorem isi_ {t : Ty} {x : D} : isiD t x = some (.bl (isB t x)) := rfl
theorem isi2_ {t u : Ty} {x : D} : isi2D t u x = some (.bl (isB t x || isB u x)) := rfl
theorem app_ {ds : List D} {x : D} (h : ds.length < 16777216) : appD ds x = some (.non, ds ++ [x]) := by simp only [appD]; rw [if_pos (by rw [sizeLine_eq]; exact h)]
theorem rng1_ {n : Int} (h : -4611686018427387904 ≤ n) (h2 : n < 4611686018427387904) : rng1 [.int n] = some (rangeL 0 n.toNat) := by simp only [rng1]; rw [if_pos ⟨by omega, by omega⟩]
theorem rng2_ {a n : Int} (h0 : -4611686018427387904 ≤ a) (h1 : a < 4611686018427387904) (h : -4611686018427387904 ≤ n) (h2 : n < 4611686018427387904) : rng2 [.int a, .int n] = some (rangeL a (n - a).toNat) := by simp only [rng2]; rw [if_pos ⟨by omega, by omega, by omega, by omega⟩]
theorem atI_of {α : Type} {xs : List α} {i : Int} {x : α} (h0 : 0 ≤ i) (h : xs[i.toNat]? = some x) : atI xs i = some x := by
  have e : i = ((i.toNat : Nat) : Int) := by omega
  rw [e]; exact atI_nat h
theorem atI_lt {α : Type} {xs : List α} {i : Int} (h0 : 0 ≤ i) (h : i < xs.length) : ∃ x, atI xs i = some x ∧ xs[i.toNat]? = some x := by
  have hi : i.toNat < xs.length := by omega
  exact ⟨xs[i.toNat], atI_of h0 (List.getElem?_eq_getElem hi), List.getElem?_eq_getElem hi⟩
theorem catL_ {xs ys : List D} (h : xs.length + ys.length ≤ 16777216) : catL (.lst xs) (.lst ys) = some (xs ++ ys) := by simp only [catL]; rw [if_pos (by rw [sizeLine_eq]; exact h)]
end Z
namespace Z
open PySem L2
theorem atI_0 {α : Type} {a : α} {l : List α} : atI (a :: l) 0 = some a := atI_of (by omega) rfl
theorem atI_1 {α : Type} {a b : α} {l : List α} : atI (a :: b :: l) 1 = some b := atI_of (by omega) rfl
theorem atI_2 {α : Type} {a b c : α} {l : List α} : atI (a :: b :: c :: l) 2 = some c := atI_of (by omega) rfl
theorem atI_3 {α : Type} {a b c d : α} {l : List α} : atI (a :: b :: c :: d :: l) 3 = some d := atI_of (by omega) rfl
theorem atI_4 {α : Type} {a b c d e : α} {l : List α} : atI (a :: b :: c :: d :: e :: l) 4 = some e := atI_of (by omega) rfl
theorem ixN_of {n : Nat} {i : Int} (h0 : 0 ≤ i) (h : i < n) : ixN n i = some i.toNat := by unfold ixN; rw [if_pos h0, if_pos h]
theorem setIx_0 {a x : D} {l : List D} : setIxD (a :: l) (.int 0) x = some (x :: l) := by
  simp only [setIxD, List.length_cons]; rw [ixN_of (by omega) (by omega)]; rfl
theorem setIx_1 {a b x : D} {l : List D} : setIxD (a :: b :: l) (.int 1) x = some (a :: x :: l) := by
  simp only [setIxD, List.length_cons]; rw [ixN_of (by omega) (by omega)]; rfl
theorem setIx_2 {a b c x : D} {l : List D} : setIxD (a :: b :: c :: l) (.int 2) x = some (a :: b :: x :: l) := by
  simp only [setIxD, List.length_cons]; rw [ixN_of (by omega) (by omega)]; rfl
end Z
namespace Z
open PySem L2
/-! statement by statement: what comes behind is a letter meanwhile -/
theorem sq {E : Exn → En → Prop} {s k : M Z.Flow} {ρ : En} {QS : Z.Flow → En → Prop} (h : ∀ K : Z.Flow → En → Prop, (∀ fl ρ1, seqQ fl (wpx E k ρ1 QS) (QS fl ρ1) → K fl ρ1) → wpx E s ρ K) : wpx E (mseq s k) ρ QS :=
  wp_seq.mpr (h _ fun _ _ h => h)
/-- any run -/
theorem ltr {E : Exn → En → Prop} {α : Type} {f : M α} {ρ : En} {Q : α → En → Prop} (h : ∀ K : α → En → Prop, (∀ a ρ1, Q a ρ1 → K a ρ1) → wpx E f ρ K) : wpx E f ρ Q := h _ fun _ _ h => h
/-! comprehensions -/
section
variable {E : Exn → En → Prop} {ρ : En} {vs : List Nat} {fs : M (List D)} {t : D → M Unit} {c : M Bool} {g : M D} {QF : List D → En → Prop}
theorem wp_comp : wpx E (mcomp vs fs t c g) ρ QF ↔ wpx E fs ρ fun ds ρ1 => vs.all (free1 ρ1) = true ∧ wp (cloop t c g vs ds []) (clr ρ1 vs) fun acc ρ2 => QF acc (rst ρ1 ρ2 vs) := by
  simp only [mcomp, wp_bind]
  refine wp_congr fun ds ρ1 => ?_
  unfold wp wpx noE
  dsimp only
  by_cases hv : vs.all (free1 ρ1) = true
  · rw [if_pos hv]
    cases cloop t c g vs ds [] (clr ρ1 vs) with
    | bad => exact ⟨fun z => False.elim z, fun h => h.2⟩
    | exc z ρ3 => exact ⟨fun z => False.elim z, fun h => h.2⟩
    | ok a ρ3 => exact ⟨fun q => ⟨hv, q⟩, fun h => h.2⟩
  · rw [if_neg hv]
    exact ⟨fun z => False.elim z, fun h => absurd h.1 hv⟩
theorem wp_cloop_nil {acc : List D} : wp (cloop t c g vs [] acc) ρ QF ↔ QF acc ρ := wp_pure
theorem wp_cloop_cons {x : D} {r acc : List D} (hl : acc.length < 16777216) : wp (cloop t c g vs (x :: r) acc) ρ QF ↔ wp (t x) ρ fun _ ρ1 => wp c ρ1 fun b ρ2 => ifQ b (wp g ρ2 fun y ρ3 => wp (cloop t c g vs r (acc ++ [y])) (clr ρ3 vs) QF) (wp (cloop t c g vs r acc) (clr ρ2 vs) QF) := by
  have hl : acc.length < sizeLine := by rw [sizeLine_eq]; exact hl
  unfold wp wpx noE
  rw [cloop]
  dsimp only
  cases t x ρ with
  | bad => exact Iff.rfl
  | exc z ρ1 => exact Iff.rfl
  | ok u ρ1 =>
    dsimp only
    cases c ρ1 with
    | bad => exact Iff.rfl
    | exc z ρ2 => exact Iff.rfl
    | ok bb ρ2 =>
      cases bb with
      | false => exact Iff.rfl
      | true =>
        dsimp only
        rw [ifQ_t]
        cases g ρ2 with
        | bad => exact Iff.rfl
        | exc z ρ3 => exact Iff.rfl
        | ok y ρ3 =>
          dsimp only
          rw [if_pos hl]
/-- an invariant -/
theorem wp_cloop (I : List D → List D → List D → En → Prop) (ds : List D) (hn : ds.length ≤ 16777216) (h0 : I [] ds [] ρ) (hl : ∀ pre post acc ρ, I pre post acc ρ → acc.length ≤ pre.length)
    (hs : ∀ pre x post acc ρ, ds = pre ++ x :: post → I pre (x :: post) acc ρ → wp (t x) ρ fun _ ρ1 => wp c ρ1 fun b ρ2 => ifQ b (wp g ρ2 fun y ρ3 => I (pre ++ [x]) post (acc ++ [y]) (clr ρ3 vs)) (I (pre ++ [x]) post acc (clr ρ2 vs)))
    (hd : ∀ acc ρ, I ds [] acc ρ → QF acc ρ) : wp (cloop t c g vs ds []) ρ QF := by
  have key : ∀ (post pre acc : List D) (ρ : En), ds = pre ++ post → I pre post acc ρ → wp (cloop t c g vs post acc) ρ QF := by
    intro post
    induction post with
    | nil => intro pre acc ρ e h; rw [List.append_nil] at e; subst e; exact wp_cloop_nil.mpr (hd acc ρ h)
    | cons x post ih =>
      intro pre acc ρ e h
      have e' : ds = (pre ++ [x]) ++ post := by rw [e]; simp
      have hz := hl _ _ _ _ h
      have : ds.length = pre.length + (post.length + 1) := by rw [e]; simp
      refine (wp_cloop_cons (by omega)).mpr (wp_mono (hs pre x post acc ρ e h) fun _ ρ1 h1 => wp_mono h1 fun b ρ2 h2 => ?_)
      cases b with
      | false => rw [ifQ_f] at h2 ⊢; exact ih _ _ _ e' h2
      | true => rw [ifQ_t] at h2 ⊢; exact wp_mono h2 fun y ρ3 h3 => ih _ _ _ e' h3
  exact key ds [] [] ρ rfl h0
/-- elements that leave the frame as it is: a map behind a filter -/
theorem wp_cloop_map {α : Type} (e : α → D) (b : α → Bool) (v : α → D) (xs : List α) (hn : xs.length ≤ 16777216)
    (h : ∀ x ∈ xs, wp (t (e x)) ρ fun _ ρ1 => wp c ρ1 fun bb ρ2 => bb = b x ∧ ifQ (b x) (wp g ρ2 fun y ρ3 => y = v x ∧ clr ρ3 vs = ρ) (clr ρ2 vs = ρ))
    (q : QF ((xs.filter b).map v) ρ) : wp (cloop t c g vs (xs.map e) []) ρ QF := by
  have key : ∀ (post : List α) (acc : List D), (∀ x ∈ post, x ∈ xs) → acc.length + post.length ≤ 16777216 → QF (acc ++ (post.filter b).map v) ρ → wp (cloop t c g vs (post.map e) acc) ρ QF := by
    intro post
    induction post with
    | nil => intro acc _ _ q; exact wp_cloop_nil.mpr (by simpa using q)
    | cons x post ih =>
      intro acc hm hz q
      have hz' : acc.length + (post.length + 1) ≤ 16777216 := hz
      rw [List.map_cons]
      refine (wp_cloop_cons (by omega)).mpr (wp_mono (h x (hm x (by simp))) fun _ ρ1 h1 => wp_mono h1 fun bb ρ2 h2 => ?_)
      obtain ⟨e1, h2⟩ := h2
      subst e1
      by_cases hb : b x = true
      · rw [hb, ifQ_t] at h2
        rw [hb, ifQ_t]
        refine wp_mono h2 fun y ρ3 h3 => ?_
        obtain ⟨e2, e3⟩ := h3
        subst e2
        rw [e3]
        refine ih _ (fun z hz => hm z (by simp [hz])) (by simp; omega) ?_
        rw [List.filter_cons_of_pos hb] at q
        simpa using q
      · have hb' : b x = false := by simpa using hb
        rw [hb', ifQ_f] at h2
        rw [hb', ifQ_f]
        rw [h2]
        refine ih _ (fun z hz => hm z (by simp [hz])) (by omega) ?_
        rw [List.filter_cons_of_neg hb] at q
        exact q
  exact key xs [] (fun _ h => h) (by simpa using hn) (by simpa using q)
end
/-- lo, lo + 1, .. -/
def intsL (lo : Int) (n : Nat) : List Int := (List.range n).map fun (i : Nat) => lo + (i : Int)
theorem rangeL_eq (lo : Int) (n : Nat) : rangeL lo n = (intsL lo n).map D.int := by simp [rangeL, intsL, List.map_map, Function.comp_def]
theorem ints_length (lo : Int) (n : Nat) : (intsL lo n).length = n := by simp [intsL]
theorem rangeL_length (lo : Int) (n : Nat) : (rangeL lo n).length = n := by simp [rangeL]
theorem mem_ints {lo : Int} {n : Nat} {x : Int} (h : x ∈ intsL lo n) : lo ≤ x ∧ x < lo + n := by
  simp only [intsL, List.mem_map, List.mem_range] at h
  obtain ⟨i, hi, rfl⟩ := h
  omega
theorem rng1_2 : rng1 [.int 2] = some [.int 0, .int 1] := rfl
/-- membership among whole numbers -/
theorem inV_ints (i : Int) : ∀ ns : List Int, inV (.int i) (ns.map V.int) = decide (i ∈ ns)
  | [] => by simp [inV]
  | n :: r => by
    have ih := inV_ints i r
    simp only [inV, List.map_cons, List.any_cons] at ih ⊢
    rw [ih]
    have : eqV (.int n) (.int i) = decide (n = i) := by first | rfl | (simp [eqV])
    rw [this]
    by_cases h : n = i
    · subst h; simp
    · have h' : i ≠ n := fun e => h e.symm
      simp [h, h']
theorem flat_ints : ∀ ns : List Int, (ns.map D.int).all flatD = true
  | [] => rfl
  | n :: r => by rw [List.map_cons, List.all_cons, flat_ints r]; rfl
theorem inB_ints (i : Int) (ns : List Int) : inB (.int i) (ns.map D.int) = decide (i ∈ ns) := by
  unfold inB
  rw [List.map_map]
  have : (vOf ∘ D.int) = V.int := by funext x; rfl
  rw [this]
  exact inV_ints i ns
theorem in_tup (i : Int) (ns : List Int) : inD (.int i) (.tup (ns.map D.int)) = some (.bl (decide (i ∈ ns))) := by
  unfold inD inFlat
  simp only [flatD, flat_ints, Bool.and_self, if_true, inB_ints, Option.map_some]
theorem in_lst (i : Int) (ns : List Int) : inD (.int i) (.lst (ns.map D.int)) = some (.bl (decide (i ∈ ns))) := by
  unfold inD inFlat
  simp only [flatD, flat_ints, Bool.and_self, if_true, inB_ints, Option.map_some]
theorem notIn_tup (i : Int) (ns : List Int) : notInD (.int i) (.tup (ns.map D.int)) = some (.bl (!decide (i ∈ ns))) := by
  unfold notInD inFlat
  simp only [flatD, flat_ints, Bool.and_self, if_true, inB_ints, Option.map_some]
theorem notIn_lst (i : Int) (ns : List Int) : notInD (.int i) (.lst (ns.map D.int)) = some (.bl (!decide (i ∈ ns))) := by
  unfold notInD inFlat
  simp only [flatD, flat_ints, Bool.and_self, if_true, inB_ints, Option.map_some]
/-! texts -/
theorem str_app_assoc (a b c : Str) : (a ++ b) ++ c = a ++ (b ++ c) := by
  show Str.mk ((a.cps ++ b.cps) ++ c.cps) = Str.mk (a.cps ++ (b.cps ++ c.cps))
  rw [Array.append_assoc]
theorem str_app_nil (a : Str) : a ++ ("" : Str) = a := by
  show Str.mk (a.cps ++ (Str.ofString "").cps) = a
  have : (Str.ofString "").cps = #[] := by decide +kernel
  rw [this, Array.append_empty]
theorem str_nil_app (a : Str) : ("" : Str) ++ a = a := by
  show Str.mk ((Str.ofString "").cps ++ a.cps) = a
  have : (Str.ofString "").cps = #[] := by decide +kernel
  rw [this, Array.empty_append]
theorem str_len_app (a b : Str) : (a ++ b).length = a.length + b.length := by
  show (a.cps ++ b.cps).size = a.cps.size + b.cps.size
  exact Array.size_append
theorem str_0 : strD (.int 0) = some (.str "0") := by
  have h : toString (0 : Int) = "0" := by decide +kernel
  unfold strD
  simp only [h]
  rw [if_pos (by decide)]
theorem str_1 : strD (.int 1) = some (.str "1") := by
  have h : toString (1 : Int) = "1" := by decide +kernel
  unfold strD
  simp only [h]
  rw [if_pos (by decide)]
end Z
namespace Z
open PySem L2
theorem fw {E : Exn → En → Prop} {n : Nat} {b : M Z.Flow} {as : List SV} {Qf : RV → En → Prop} (h : ∀ K : Z.Flow → En → Prop, (∀ fl ρ, endQ fl (fun x => Qf x (ρ.take as.length)) → K fl ρ) → wpx (fun ex ρ => E ex (ρ.take as.length)) b (as.map some ++ List.replicate (n - as.length) none) K) : fwpx E (runBody n b) as Qf :=
  fwp_run.mpr (h _ fun _ _ h => h)
end Z
namespace Z
open PySem L2
theorem atI_ints {ns : List Int} {i : Int} (h0 : 0 ≤ i) (h : i < ns.length) : ∃ v : Int, atI (ns.map D.int) i = some (.int v) ∧ ns[i.toNat]? = some v := by
  have hi : i.toNat < ns.length := by omega
  exact ⟨ns[i.toNat], atI_of h0 (by rw [List.getElem?_map, List.getElem?_eq_getElem hi]; rfl), List.getElem?_eq_getElem hi⟩
theorem ifQ_join {b : Bool} {A B : Prop} (h1 : A) (h2 : B) : ifQ b A B := ifQ_of (fun _ => h1) fun _ => h2
end Z
namespace Z
open PySem L2
/-- a slot that holds data, or nothing -/
abbrev mD (a : Option D) : Option SV := a.map SV.d
theorem setQ_m {a : Option D} {P : Prop} : setQ (some (a.map SV.d)) P ↔ P := by cases a <;> exact Iff.rfl
theorem truD_bl {b : Bool} : truD (.bl b) = some b := rfl
theorem inD_tup2 (i : Int) (ns : List Int) : inD (.int i) (.tup (ns.map D.int)) = some (.bl (decide (i ∈ ns))) := in_tup i ns
end Z

/-! Z: small answers of the operators -/

namespace Z
open PySem L2

theorem items_lst {xs : List D} : itemsD (.lst xs) = some xs := rfl
theorem items_tup {xs : List D} : itemsD (.tup xs) = some xs := rfl
theorem items_kls {xs : List D} : itemsD (.kls xs) = some xs := rfl
theorem tru_int {i : Int} : truD (.int i) = some (i != 0) := rfl
theorem tru_tup {xs : List D} : truD (.tup xs) = some (!xs.isEmpty) := rfl
theorem tru_lst {xs : List D} : truD (.lst xs) = some (!xs.isEmpty) := rfl
theorem eq_non_int {i : Int} : eqD .non (.int i) = some (.bl false) := rfl
theorem eq_int_non {i : Int} : eqD (.int i) .non = some (.bl false) := rfl
theorem ne_non_int {i : Int} : neD .non (.int i) = some (.bl true) := rfl
theorem ne_int_non {i : Int} : neD (.int i) .non = some (.bl true) := rfl
theorem isNon_int {i : Int} : isNonD (.int i) = false := rfl
theorem isNon_str {i : Str} : isNonD (.str i) = false := rfl
theorem isNon_tup {i : List D} : isNonD (.tup i) = false := rfl
theorem isNon_lst {i : List D} : isNonD (.lst i) = false := rfl
theorem isNon_bl {i : Bool} : isNonD (.bl i) = false := rfl
theorem isNon_non : isNonD .non = true := rfl
theorem setIx_3 {a b c d x : D} {l : List D} : setIxD (a :: b :: c :: d :: l) (.int 3) x = some (a :: b :: c :: x :: l) := by
  simp only [setIxD, List.length_cons]; rw [ixN_of (by omega) (by omega)]; rfl
theorem setIx_4 {a b c d e x : D} {l : List D} : setIxD (a :: b :: c :: d :: e :: l) (.int 4) x = some (a :: b :: c :: d :: x :: l) := by
  simp only [setIxD, List.length_cons]; rw [ixN_of (by omega) (by omega)]; rfl
theorem setIx_5 {a b c d e f x : D} {l : List D} : setIxD (a :: b :: c :: d :: e :: f :: l) (.int 5) x = some (a :: b :: c :: d :: e :: x :: l) := by
  simp only [setIxD, List.length_cons]; rw [ixN_of (by omega) (by omega)]; rfl
theorem atI_map {α β : Type} (f : α → β) {xs : List α} {i : Int} (h0 : 0 ≤ i) (h : i < xs.length) : ∃ v, v ∈ xs ∧ atI (xs.map f) i = some (f v) ∧ xs[i.toNat]? = some v := by
  have hl : i.toNat < xs.length := by omega
  refine ⟨xs[i.toNat], List.getElem_mem hl, ?_, List.getElem?_eq_getElem hl⟩
  exact atI_of h0 (by rw [List.getElem?_map, List.getElem?_eq_getElem hl]; rfl)
theorem cutG_map {α β : Type} (f : α → β) (xs : List α) (lo hi : Option Int) : cutG (xs.map f) lo hi = (cutG xs lo hi).map f := by
  simp only [cutG, List.length_map, List.map_take, List.map_drop]
theorem filter_true {α : Type} (xs : List α) : xs.filter (fun _ => true) = xs := by simp
theorem cutG_le {α : Type} (xs : List α) (lo hi : Option Int) : (cutG xs lo hi).length ≤ xs.length := by
  simp only [cutG, List.length_take, List.length_drop]; omega
section
variable {E : Exn → En → Prop} {ρ : En} {Q : D → En → Prop} {QS : Z.Flow → En → Prop}
theorem wp_chain {s1 s2 : D → D → Option D} {f g h : M D} : wpx E (mchain s1 s2 f g h) ρ Q ↔ wpx E f ρ fun x ρ1 => wpx E g ρ1 fun y ρ2 => optQ (s1 x y) fun z => optQ (toB z) fun k => ifQ k (wpx E h ρ2 fun u ρ3 => optQ (s2 y u) fun v => Q v ρ3) (Q (.bl false) ρ2) := by
  simp only [mchain, wp_bind, wp_opt, wp_ite, wp_pure, ifQ]
theorem wp_raise {c : Str} : wpx E (mraise c) ρ QS ↔ E ⟨c, none⟩ ρ := by unfold wpx; exact Iff.rfl
/-- try: the body's end, or its exception handled -/
def catchQ (i : Nat) (sub : Str → Option Bool) (h : Exn → Addr → M Z.Flow) (E : Exn → En → Prop) (QS : Z.Flow → En → Prop) (e : Exn) (ρ : En) : Prop :=
  (e.fld = none ∧ sub e.cls = some true ∧ noOwn ρ i = true ∧ ∃ fl ρ0, QS fl ρ0 ∧ ∀ a, wp (h e a) (ρ.set i (some (.ex a))) fun fl' ρ2 => fl' = fl ∧ noOwn ρ2 i = true ∧ ρ2.set i none = ρ0) ∨ (sub e.cls = some false ∧ E e ρ)
theorem wp_try {i : Nat} {sub : Str → Option Bool} {g : M Z.Flow} {h : Exn → Addr → M Z.Flow} (H : wpx (catchQ i sub h E QS) g ρ QS) : wpx E (mtry i sub g h) ρ QS := by
  unfold wpx at H ⊢
  unfold mtry
  cases eg : g ρ with
  | bad => rw [eg] at H; exact H
  | ok fl ρ1 => rw [eg] at H; exact H
  | exc e ρ1 =>
    rw [eg] at H
    rcases H with ⟨h1, h2, h3, fl, ρ0, q, k⟩ | ⟨h1, h2⟩
    · have st : ∀ a, strip i (h e a (ρ1.set i (some (.ex a)))) = .ok fl ρ0 := fun a => by
        have ka := k a
        unfold wp wpx at ka
        cases er : h e a (ρ1.set i (some (.ex a))) with
        | bad => rw [er] at ka; exact ka.elim
        | exc x y => rw [er] at ka; exact ka.elim
        | ok fl' ρ2 =>
          rw [er] at ka
          obtain ⟨rfl, n2, rfl⟩ := ka
          simp only [strip]
          rw [if_pos n2]
      simp only [h1, h2]
      unfold handled
      rw [if_pos ⟨h3, fun a => (st a).trans (st 0).symm⟩, st 0]
      exact q
    · simp only [h1]
      cases e.fld <;> exact h2
end
theorem all_bls (bs : List Bool) : allD (.lst (bs.map D.bl)) = some (.bl (bs.all id)) := by simp only [allD, asBls_map, Option.map_some]
theorem all_map {α : Type} (b : α → Bool) (xs : List α) : allD (.lst (xs.map fun x => D.bl (b x))) = some (.bl (xs.all b)) := by
  have e : (xs.map fun x => D.bl (b x)) = (xs.map b).map D.bl := by simp [Function.comp_def]
  rw [e, all_bls]
  simp [List.all_map]
theorem sortSet_ {ns : List Int} (h : ns.length < 64) : sortSetD (.tup (ns.map D.int)) = some ((sortU ns).map D.int) := by
  simp only [sortSetD, asInts_map, Option.bind_some, if_pos h]
theorem rg1_ {n : Int} (h : n ≤ 16777216) (h2 : -16777216 ≤ n) : rg1D (.int n) = some (rgL 0 n) := by simp only [rg1D]; rw [if_pos ⟨h, h2⟩]
theorem rg2_ {a n : Int} (h : n ≤ 16777216) (h2 : -16777216 ≤ n) (h3 : a ≤ 16777216) (h4 : -16777216 ≤ a) (h5 : n - a ≤ 16777216) : rg2D (.int a) (.int n) = some (rgL a n) := by simp only [rg2D]; rw [if_pos ⟨⟨h4, h3⟩, ⟨h2, h⟩, h5⟩]
theorem revL_ {xs : List D} (h : xs.length < 1000000) : revL (.tup xs) = some xs.reverse := by simp only [revL]; rw [if_pos h]
theorem min_ints {m : Int} {r : List Int} : minD (.lst ((m :: r).map D.int)) = some (.int (minI m r)) := by simp only [minD, asInts_map]
theorem bitOr_nat (a b : Nat) : Builtin.bitOr (a : Int) (b : Int) = ((a ||| b : Nat) : Int) := by
  have n1 : ∀ n : Nat, Builtin.bitNot (n : Int) = -(n : Int) - 1 := fun n => by unfold Builtin.bitNot; omega
  have n2 : ∀ n : Nat, Builtin.bitNot (Builtin.bitNot (n : Int)) = (n : Int) := fun n => by rw [n1]; unfold Builtin.bitNot; omega
  unfold Builtin.bitOr Builtin.bitAnd
  have f : ∀ n : Nat, decide (0 ≤ Builtin.bitNot (n : Int)) = false := fun n => by rw [n1]; simp; omega
  rw [f a, f b]
  simp only
  rw [n2, n2, n2]
  simp
theorem bitAnd_nat (a b : Nat) : Builtin.bitAnd (a : Int) (b : Int) = ((a &&& b : Nat) : Int) := by
  unfold Builtin.bitAnd
  simp
/-! ### == of nested lists and tuples of whole numbers -/
inductive Pl : Nat → D → Prop
  | int (n : Nat) (i : Int) : Pl n (.int i)
  | tup (n : Nat) (xs : List D) : (∀ x ∈ xs, Pl n x) → Pl (n + 1) (.tup xs)
  | lst (n : Nat) (xs : List D) : (∀ x ∈ xs, Pl n x) → Pl (n + 1) (.lst xs)
theorem lay_all {n : Nat} : ∀ {xs : List D}, (∀ x ∈ xs, (toPy x).canLay0 = true ∧ (toPy x).depth ≤ n) → PyData.canLayAll0 (toPys xs) = true ∧ PyData.depthAll (toPys xs) ≤ n
  | [], _ => ⟨rfl, Nat.zero_le _⟩
  | x :: xs, h => by
    obtain ⟨a, b⟩ := h x (by simp)
    obtain ⟨c, d⟩ := lay_all (xs := xs) fun y hy => h y (by simp [hy])
    simp only [toPys, PyData.canLayAll0, PyData.depthAll]
    exact ⟨by rw [a, c]; rfl, by omega⟩
theorem pl_lay : ∀ (n : Nat) {x : D}, Pl n x → (toPy x).canLay0 = true ∧ (toPy x).depth ≤ n
  | 0, _, .int _ i => ⟨rfl, Nat.le_refl _⟩
  | n + 1, _, .int _ i => ⟨rfl, Nat.zero_le _⟩
  | n + 1, _, .tup _ xs h => by
    obtain ⟨a, b⟩ := lay_all fun x hx => pl_lay n (h x hx)
    simp only [toPy, PyData.canLay0, PyData.depth]
    exact ⟨a, by omega⟩
  | n + 1, _, .lst _ xs h => by
    obtain ⟨a, b⟩ := lay_all fun x hx => pl_lay n (h x hx)
    simp only [toPy, PyData.canLay0, PyData.depth]
    exact ⟨a, by omega⟩
theorem pl_shp {n : Nat} (hn : n ≤ 64) {x : D} (h : Pl n x) : shp x = true := by
  obtain ⟨a, b⟩ := pl_lay n h
  unfold shp SeqAt.shaped
  rw [a]
  simp
  omega
theorem eqv_all {P : D → Prop} (h : ∀ x y, P x → P y → (PyData.eqv (toPy x) (toPy y) = true ↔ x = y)) : ∀ {xs ys : List D}, (∀ x ∈ xs, P x) → (∀ y ∈ ys, P y) → (PyData.eqvAll (toPys xs) (toPys ys) = true ↔ xs = ys)
  | [], [], _, _ => by simp [toPys, PyData.eqvAll]
  | [], y :: ys, _, _ => by simp [toPys, PyData.eqvAll]
  | x :: xs, [], _, _ => by simp [toPys, PyData.eqvAll]
  | x :: xs, y :: ys, hx, hy => by
    simp only [toPys, PyData.eqvAll, Bool.and_eq_true, List.cons.injEq]
    rw [h x y (hx x (by simp)) (hy y (by simp)), eqv_all h (fun z hz => hx z (by simp [hz])) (fun z hz => hy z (by simp [hz]))]
theorem pl_eqv : ∀ (n : Nat) {x y : D}, Pl n x → Pl n y → (PyData.eqv (toPy x) (toPy y) = true ↔ x = y)
  | 0, _, _, .int _ i, .int _ j => by simp [toPy, PyData.eqv]
  | n + 1, _, _, .int _ i, .int _ j => by simp [toPy, PyData.eqv]
  | n + 1, _, _, .int _ i, .tup _ ys _ => by simp [toPy, PyData.eqv]
  | n + 1, _, _, .int _ i, .lst _ ys _ => by simp [toPy, PyData.eqv]
  | n + 1, _, _, .tup _ xs _, .int _ j => by simp [toPy, PyData.eqv]
  | n + 1, _, _, .lst _ xs _, .int _ j => by simp [toPy, PyData.eqv]
  | n + 1, _, _, .tup _ xs _, .lst _ ys _ => by simp [toPy, PyData.eqv]
  | n + 1, _, _, .lst _ xs _, .tup _ ys _ => by simp [toPy, PyData.eqv]
  | n + 1, _, _, .tup _ xs hx, .tup _ ys hy => by
    simp only [toPy, PyData.eqv, D.tup.injEq]
    exact eqv_all (P := Pl n) (fun x y a b => pl_eqv n a b) hx hy
  | n + 1, _, _, .lst _ xs hx, .lst _ ys hy => by
    simp only [toPy, PyData.eqv, D.lst.injEq]
    exact eqv_all (P := Pl n) (fun x y a b => pl_eqv n a b) hx hy
theorem eq_lsts {n : Nat} (hn : n ≤ 64) {xs ys : List D} (h1 : Pl n (.lst xs)) (h2 : Pl n (.lst ys)) : ∃ b, eqD (.lst xs) (.lst ys) = some (.bl b) ∧ (b = true ↔ xs = ys) := by
  refine ⟨PyData.eqv (toPy (.lst xs)) (toPy (.lst ys)), ?_, ?_⟩
  · have e : eqB (.lst xs) (.lst ys) = if (shp (.lst xs) && shp (.lst ys)) = true then some (PyData.eqv (toPy (.lst xs)) (toPy (.lst ys))) else none := rfl
    unfold eqD
    rw [e, pl_shp hn h1, pl_shp hn h2]
    rfl
  · rw [pl_eqv n h1 h2]; simp
theorem eq_tups {n : Nat} (hn : n ≤ 64) {xs ys : List D} (h1 : Pl n (.tup xs)) (h2 : Pl n (.tup ys)) : ∃ b, eqD (.tup xs) (.tup ys) = some (.bl b) ∧ (b = true ↔ xs = ys) := by
  refine ⟨PyData.eqv (toPy (.tup xs)) (toPy (.tup ys)), ?_, ?_⟩
  · have e : eqB (.tup xs) (.tup ys) = if (shp (.tup xs) && shp (.tup ys)) = true then some (PyData.eqv (toPy (.tup xs)) (toPy (.tup ys))) else none := rfl
    unfold eqD
    rw [e, pl_shp hn h1, pl_shp hn h2]
    rfl
  · rw [pl_eqv n h1 h2]; simp
theorem mulA_i {i j : Int} : mulAD (.int i) (.int j) = mulD (.int i) (.int j) := rfl
theorem mulA_t {xs : List D} {k : Int} (h : xs ≠ []) (h1 : -1000000 ≤ k) (h2 : k ≤ 1000) (h3 : xs.length ≤ 1000) : mulAD (.tup xs) (.int k) = some (.tup (List.replicate k.toNat xs).flatten) := by
  simp only [mulAD]; rw [if_pos ⟨h, h1, h2, h3⟩]
theorem isA_n {x : D} : isAD x .non = some (.bl (isNonD x)) := by cases x <;> rfl
theorem isNotA_n {x : D} : isNotAD x .non = some (.bl (!isNonD x)) := by cases x <;> rfl
/-- is it this truth value? -/
def isBlD (x : D) (b : Bool) : Bool := match x with
  | .bl a => decide (a = b)
  | _ => false
theorem isA_b {x : D} {b : Bool} : isAD x (.bl b) = some (.bl (isBlD x b)) := by cases x <;> rfl
theorem isNotA_b {x : D} {b : Bool} : isNotAD x (.bl b) = some (.bl (!isBlD x b)) := by cases x <;> rfl
theorem isBl_bl {a b : Bool} : isBlD (.bl a) b = decide (a = b) := rfl
theorem isBl_int {a : Int} {b : Bool} : isBlD (.int a) b = false := rfl
theorem isBl_str {a : Str} {b : Bool} : isBlD (.str a) b = false := rfl
theorem isBl_tup {a : List D} {b : Bool} : isBlD (.tup a) b = false := rfl
theorem isBl_lst {a : List D} {b : Bool} : isBlD (.lst a) b = false := rfl
theorem isBl_non {b : Bool} : isBlD .non b = false := rfl
/-- the slot of the exception in hand -/
def exQ (s : Option (Option SV)) (a : Addr) (P : Prop) : Prop := match s with
  | some (some (.ex b)) => b = a ∧ P
  | _ => False
theorem exQ_ex {a : Addr} {P : Prop} : exQ (some (some (.ex a))) a P ↔ P := ⟨fun h => h.2, fun h => ⟨rfl, h⟩⟩
theorem wp_isE {E : Exn → En → Prop} {ρ : En} {Q : D → En → Prop} {i : Nat} {a : Addr} {o : Option Bool} : wpx E (misE i a o) ρ Q ↔ optQ o fun c => exQ ρ[i]? a (Q (.bl c) ρ) := by
  unfold wpx misE exQ
  cases ρ[i]? with
  | none => cases o <;> simp [optQ]
  | some u => cases u with
    | none => cases o <;> simp [optQ]
    | some sv => cases sv with
      | d x => cases o <;> simp [optQ]
      | own b ds => cases o <;> simp [optQ]
      | dct x => cases o <;> simp [optQ]
      | tre b es => cases o <;> simp [optQ]
      | ex b =>
        by_cases h : b = a
        · cases o <;> simp [optQ, h]
        · cases o <;> simp [optQ, h]
theorem tab_self {x : Str} {b : Bool} {l : List (Str × Bool)} : tab ((x, b) :: l) x = some b := by unfold tab; rw [if_pos rfl]
theorem tab_ne {x y : Str} {b : Bool} {l : List (Str × Bool)} (h : x ≠ y) : tab ((y, b) :: l) x = tab l x := by
  conv => lhs; unfold tab
  rw [if_neg h]
theorem catch_in {i : Nat} {sub : Str → Option Bool} {h : Exn → Addr → M Z.Flow} {E : Exn → En → Prop} {QS : Z.Flow → En → Prop} {c : Str} {ρ : En} (h1 : sub c = some true) (h2 : noOwn ρ i = true) (fl : Z.Flow) (ρ0 : En) (q : QS fl ρ0)
    (k : ∀ a, wp (h ⟨c, none⟩ a) (ρ.set i (some (.ex a))) fun fl' ρ2 => fl' = fl ∧ noOwn ρ2 i = true ∧ ρ2.set i none = ρ0) : catchQ i sub h E QS ⟨c, none⟩ ρ := .inl ⟨rfl, h1, h2, fl, ρ0, q, k⟩
theorem isB_int_non : isB .int .non = false := rfl
theorem isB_int_bl {a : Bool} : isB .int (.bl a) = true := rfl
theorem isB_int_int {a : Int} : isB .int (.int a) = true := rfl
theorem isB_int_str {a : Str} : isB .int (.str a) = false := rfl
theorem isB_int_tup {a : List D} : isB .int (.tup a) = false := rfl
theorem isB_int_lst {a : List D} : isB .int (.lst a) = false := rfl
theorem isB_int_kls {a : List D} : isB .int (.kls a) = false := rfl
theorem isB_bool_non : isB .bool .non = false := rfl
theorem isB_bool_bl {a : Bool} : isB .bool (.bl a) = true := rfl
theorem isB_bool_int {a : Int} : isB .bool (.int a) = false := rfl
theorem isB_bool_str {a : Str} : isB .bool (.str a) = false := rfl
theorem isB_bool_tup {a : List D} : isB .bool (.tup a) = false := rfl
theorem isB_bool_lst {a : List D} : isB .bool (.lst a) = false := rfl
theorem isB_bool_kls {a : List D} : isB .bool (.kls a) = false := rfl
theorem isB_str_non : isB .str .non = false := rfl
theorem isB_str_bl {a : Bool} : isB .str (.bl a) = false := rfl
theorem isB_str_int {a : Int} : isB .str (.int a) = false := rfl
theorem isB_str_str {a : Str} : isB .str (.str a) = true := rfl
theorem isB_str_tup {a : List D} : isB .str (.tup a) = false := rfl
theorem isB_str_lst {a : List D} : isB .str (.lst a) = false := rfl
theorem isB_str_kls {a : List D} : isB .str (.kls a) = false := rfl
theorem isB_tuple_non : isB .tuple .non = false := rfl
theorem isB_tuple_bl {a : Bool} : isB .tuple (.bl a) = false := rfl
theorem isB_tuple_int {a : Int} : isB .tuple (.int a) = false := rfl
theorem isB_tuple_str {a : Str} : isB .tuple (.str a) = false := rfl
theorem isB_tuple_tup {a : List D} : isB .tuple (.tup a) = true := rfl
theorem isB_tuple_lst {a : List D} : isB .tuple (.lst a) = false := rfl
theorem isB_tuple_kls {a : List D} : isB .tuple (.kls a) = false := rfl
theorem isB_list_non : isB .list .non = false := rfl
theorem isB_list_bl {a : Bool} : isB .list (.bl a) = false := rfl
theorem isB_list_int {a : Int} : isB .list (.int a) = false := rfl
theorem isB_list_str {a : Str} : isB .list (.str a) = false := rfl
theorem isB_list_tup {a : List D} : isB .list (.tup a) = false := rfl
theorem isB_list_lst {a : List D} : isB .list (.lst a) = true := rfl
theorem isB_list_kls {a : List D} : isB .list (.kls a) = true := rfl
/-- what is wanted where it raises, a letter -/
theorem ltrE {E : Exn → En → Prop} {α : Type} {f : M α} {ρ : En} {Q : α → En → Prop} (h : ∀ C : Exn → En → Prop, (∀ e ρ1, E e ρ1 → C e ρ1) → wpx C f ρ Q) : wpx E f ρ Q := h _ fun _ _ h => h
theorem atI_bls {ks : List Bool} {j : Int} (h0 : 0 ≤ j) (h1 : j < ks.length) : atI (ks.map D.bl) j = some (.bl (ks.getD j.toNat false)) := by
  have hj : j.toNat < ks.length := by omega
  refine atI_of h0 ?_
  rw [List.getElem?_map, List.getElem?_eq_getElem hj, List.getD_eq_getElem?_getD, List.getElem?_eq_getElem hj]
  rfl
/-- [k for k in range(len(kinds)) if kinds[k]] -/
theorem wp_kinds {ρ : En} {a b n : Nat} (ks : List Bool) {QF : List D → En → Prop} (hn : n = ks.length) (hl : ks.length ≤ 1000) (hab : a ≠ b) (ha : ρ[a]? = some (some (.d (.lst (ks.map D.bl))))) (hb : ρ[b]? = some none)
    (q : QF (((intsL 0 ks.length).filter fun j => ks.getD j.toNat false).map D.int) ρ) : wp (cloop (gnm b) (mtru (.val (mop2 idxD (.slot a) (.slot b)))) (mval b) [b] (rangeL 0 n) []) ρ QF := by
  subst hn
  rw [rangeL_eq]
  refine wp_cloop_map D.int (fun j => ks.getD j.toNat false) D.int _ (by rw [ints_length]; omega) (fun j hj => ?_) q
  obtain ⟨h0, h1⟩ := mem_ints hj
  have lb : b < ρ.length := (List.getElem?_eq_some_iff.mp hb).1
  have e1 : (ρ.set b (some (.d (.int j))))[a]? = some (some (.d (.lst (ks.map D.bl)))) := by rw [List.getElem?_set_ne (Ne.symm hab)]; exact ha
  have e2 : (ρ.set b (some (.d (.int j))))[b]? = some (some (.d (.int j))) := List.getElem?_set_self lb
  have back : ∀ u, clr ((ρ.set b u)) [b] = ρ := fun u => by
    show (ρ.set b u).set b none = ρ
    rw [List.set_set]
    exact List.ext_getElem? fun i => by
      by_cases hi : b = i
      · subst hi; rw [List.getElem?_set_self lb, hb]
      · rw [List.getElem?_set_ne hi]
  refine wp_gnm.mpr ?_
  rw [hb]
  refine wp_truv.mpr (wp_op2ss.mpr ?_)
  rw [e1]
  show getQ _ _
  rw [e2]
  show optQ (idxD (.lst _) (.int j)) _
  rw [idx_lst, atI_bls h0 (by omega), optQ_some]
  show optQ (some _) _
  rw [optQ_some]
  refine ⟨rfl, ?_⟩
  cases ks.getD j.toNat false with
  | false => rw [ifQ_f]; exact back _
  | true =>
    rw [ifQ_t]
    refine wp_val.mpr ?_
    rw [e2]
    refine ⟨rfl, ?_⟩
    rw [List.set_set]
    exact back _
section
variable {E : Exn → En → Prop} {ρ : En} {Q : D → En → Prop} {QS : Z.Flow → En → Prop} {QF : List D → En → Prop}
theorem wp_grd {b : Bool} {Q : Unit → En → Prop} : wpx E (mgrd b) ρ Q ↔ b = true ∧ Q () ρ := by
  cases b with
  | true => unfold wpx mgrd; exact ⟨fun h => ⟨rfl, h⟩, fun h => h.2⟩
  | false => unfold wpx mgrd; exact ⟨fun h => h.elim, fun h => by cases h.1⟩
theorem wp_bmv {isT : D → Bool} {sem : D → D → Option D} {f g : M D} : wpx E (mbm isT sem (.val f) g) ρ Q ↔ wpx E f ρ fun x ρ1 => isT x = true ∧ wpx E g ρ1 fun y ρ2 => optQ (sem x y) fun z => Q z ρ2 := by simp only [mbm, wp_bind, wp_opt, wp_grd]
theorem wp_bms {isT : D → Bool} {sem : D → D → Option D} {i : Nat} {g : M D} : wpx E (mbm isT sem (.slot i) g) ρ Q ↔ getQ ρ[i]? fun x => isT x = true ∧ wpx E g ρ fun y ρ1 => getQ ρ1[i]? fun x => optQ (sem x y) fun z => Q z ρ1 := by simp only [mbm, wp_bind, wp_opt, wp_get, wp_grd]
theorem isLs_l {xs : List D} : isLs (.lst xs) = true := rfl
theorem wp_par {i j : Nat} {f g : M D} : wpx E (mpar i j f g) ρ QS ↔ wpx E f ρ fun x ρ1 => wpx E g ρ1 fun y ρ2 => setQ ρ2[i]? (setQ (ρ2.set i (some (.d x)))[j]? (QS .nx ((ρ2.set i (some (.d x))).set j (some (.d y))))) := by simp only [mpar, wp_bind, wp_store]
theorem ext_ {ds xs : List D} (h : ds.length + xs.length ≤ 16777216) : extD ds (.lst xs) = some (.non, ds ++ xs) := by simp only [extD]; rw [if_pos h]
theorem bits_ {i : Int} : bitsD (.int i) = some (.int (Builtin.Int.intBits i : Nat)) := rfl
/-- a map behind a filter, behind what is there -/
theorem wp_cloop_mapA {vs : List Nat} {t : D → M Unit} {c : M Bool} {g : M D} {α : Type} (e : α → D) (b : α → Bool) (v : α → D) (xs : List α) (acc : List D) (hn : acc.length + xs.length ≤ 16777216)
    (h : ∀ x ∈ xs, wp (t (e x)) ρ fun _ ρ1 => wp c ρ1 fun bb ρ2 => bb = b x ∧ ifQ (b x) (wp g ρ2 fun y ρ3 => y = v x ∧ clr ρ3 vs = ρ) (clr ρ2 vs = ρ))
    (q : QF (acc ++ (xs.filter b).map v) ρ) : wp (cloop t c g vs (xs.map e) acc) ρ QF := by
  induction xs generalizing acc with
  | nil => exact wp_cloop_nil.mpr (by simpa using q)
  | cons x post ih =>
    have hz' : acc.length + (post.length + 1) ≤ 16777216 := hn
    rw [List.map_cons]
    refine (wp_cloop_cons (by omega)).mpr (wp_mono (h x (by simp)) fun _ ρ1 h1 => wp_mono h1 fun bb ρ2 h2 => ?_)
    obtain ⟨e1, h2⟩ := h2
    subst e1
    by_cases hb : b x = true
    · rw [hb, ifQ_t] at h2
      rw [hb, ifQ_t]
      refine wp_mono h2 fun y ρ3 h3 => ?_
      obtain ⟨e2, e3⟩ := h3
      subst e2
      rw [e3]
      refine ih _ (by simp; omega) (fun z hz => h z (by simp [hz])) ?_
      rw [List.filter_cons_of_pos hb] at q
      simpa using q
    · have hb' : b x = false := by simpa using hb
      rw [hb', ifQ_f] at h2
      rw [hb', ifQ_f]
      rw [h2]
      refine ih _ (by omega) (fun z hz => h z (by simp [hz])) ?_
      rw [List.filter_cons_of_neg hb] at q
      exact q
theorem wp_comp2 {vs vs1 : List Nat} {fs f1 : M (List D)} {t t1 : D → M Unit} {p p1 : M Bool} {g : M D} : wpx E (mcomp2 vs vs1 fs t p f1 t1 p1 g) ρ QF ↔ wpx E fs ρ fun ds ρ1 => vs.all (free1 ρ1) = true ∧ wp (cloop2 t p f1 t1 p1 g vs vs1 ds []) (clr ρ1 vs) fun acc ρ2 => QF acc (rst ρ1 ρ2 vs) := by
  simp only [mcomp2, wp_bind]
  refine wp_congr fun ds ρ1 => ?_
  unfold wp wpx noE
  dsimp only
  by_cases hv : vs.all (free1 ρ1) = true
  · rw [if_pos hv]
    cases cloop2 t p f1 t1 p1 g vs vs1 ds [] (clr ρ1 vs) with
    | bad => exact ⟨fun z => False.elim z, fun h => h.2⟩
    | exc z ρ3 => exact ⟨fun z => False.elim z, fun h => h.2⟩
    | ok a ρ3 => exact ⟨fun q => ⟨hv, q⟩, fun h => h.2⟩
  · rw [if_neg hv]
    exact ⟨fun z => False.elim z, fun h => absurd h.1 hv⟩
theorem wp_cloop2_nil {vs vs1 : List Nat} {f1 : M (List D)} {t t1 : D → M Unit} {p p1 : M Bool} {g : M D} {acc : List D} : wp (cloop2 t p f1 t1 p1 g vs vs1 [] acc) ρ QF ↔ QF acc ρ := wp_pure
theorem wp_cloop2_cons {vs vs1 : List Nat} {f1 : M (List D)} {t t1 : D → M Unit} {p p1 : M Bool} {g : M D} {x : D} {r acc : List D} : wp (cloop2 t p f1 t1 p1 g vs vs1 (x :: r) acc) ρ QF ↔
    wp (t x) ρ fun _ ρ1 => wp p ρ1 fun b ρ2 => ifQ b (wp f1 ρ2 fun ds1 ρ3 => wp (cloop t1 p1 g vs1 ds1 acc) (clr ρ3 vs1) fun acc' ρ4 => wp (cloop2 t p f1 t1 p1 g vs vs1 r acc') (clr ρ4 vs) QF) (wp (cloop2 t p f1 t1 p1 g vs vs1 r acc) (clr ρ2 vs) QF) := by
  unfold wp wpx noE
  rw [cloop2]
  dsimp only
  cases t x ρ with
  | bad => exact Iff.rfl
  | exc z ρ1 => exact Iff.rfl
  | ok u ρ1 =>
    dsimp only
    cases p ρ1 with
    | bad => exact Iff.rfl
    | exc z ρ2 => exact Iff.rfl
    | ok bb ρ2 =>
      cases bb with
      | false => exact Iff.rfl
      | true =>
        dsimp only
        rw [ifQ_t]
        cases f1 ρ2 with
        | bad => exact Iff.rfl
        | exc z ρ3 => exact Iff.rfl
        | ok ds1 ρ3 =>
          dsimp only
          cases cloop t1 p1 g vs1 ds1 acc (clr ρ3 vs1) with
          | bad => exact Iff.rfl
          | exc z ρ4 => exact Iff.rfl
          | ok acc' ρ4 => exact Iff.rfl
/-- elements that leave the frame as it is -/
theorem wp_cloop2_map {vs vs1 : List Nat} {f1 : M (List D)} {t t1 : D → M Unit} {p p1 : M Bool} {g : M D} {α : Type} (e : α → D) (b : α → Bool) (out : α → List D) (N : Nat) (xs : List α) (acc : List D) (hn : acc.length + ((xs.filter b).map fun x => (out x).length).sum ≤ N)
    (h : ∀ x ∈ xs, wp (t (e x)) ρ fun _ ρ1 => wp p ρ1 fun bb ρ2 => bb = b x ∧ ifQ (b x) (wp f1 ρ2 fun ds1 ρ3 => ∀ acc : List D, acc.length + (out x).length ≤ N → wp (cloop t1 p1 g vs1 ds1 acc) (clr ρ3 vs1) fun acc' ρ4 => acc' = acc ++ out x ∧ clr ρ4 vs = ρ) (clr ρ2 vs = ρ))
    (q : QF (acc ++ (xs.filter b).flatMap out) ρ) : wp (cloop2 t p f1 t1 p1 g vs vs1 (xs.map e) acc) ρ QF := by
  induction xs generalizing acc with
  | nil => exact wp_cloop2_nil.mpr (by simpa using q)
  | cons x post ih =>
    rw [List.map_cons]
    refine wp_cloop2_cons.mpr (wp_mono (h x (by simp)) fun _ ρ1 h1 => wp_mono h1 fun bb ρ2 h2 => ?_)
    obtain ⟨e1, h2⟩ := h2
    subst e1
    by_cases hb : b x = true
    · rw [hb, ifQ_t] at h2
      rw [hb, ifQ_t]
      rw [List.filter_cons_of_pos hb] at q hn
      rw [List.map_cons, List.sum_cons] at hn
      refine wp_mono h2 fun ds1 ρ3 h3 => wp_mono (h3 acc (by omega)) fun acc' ρ4 h4 => ?_
      obtain ⟨e2, e3⟩ := h4
      subst e2
      rw [e3]
      refine ih _ (by rw [List.length_append]; omega) (fun z hz => h z (by simp [hz])) ?_
      simpa using q
    · have hb' : b x = false := by simpa using hb
      rw [hb', ifQ_f] at h2
      rw [hb', ifQ_f]
      rw [h2]
      rw [List.filter_cons_of_neg hb] at q hn
      exact ih _ hn (fun z hz => h z (by simp [hz])) q
end
section
variable {E : Exn → En → Prop} {ρ : En} {QS : Z.Flow → En → Prop} {QF : List D → En → Prop}
theorem wp_enum {f : M D} : wpx E (menum f) ρ QF ↔ wpx E f ρ fun x ρ1 => optQ ((itemsD x).map enumL) fun ds => QF ds ρ1 := by simp only [menum, wp_bind, wp_opt]
theorem wp_zip {f g : M D} : wpx E (mzip f g) ρ QF ↔ wpx E f ρ fun x ρ1 => wpx E g ρ1 fun y ρ2 => optQ (zipD x y) fun ds => QF ds ρ2 := by simp only [mzip, wp_bind, wp_opt]
def augQ (s : Option (Option SV)) (P : Int → Prop) : Prop := match s with
  | some (some (.d (.int a))) => P a
  | _ => False
theorem augQ_i {a : Int} {P : Int → Prop} : augQ (some (some (.d (.int a)))) P ↔ P a := Iff.rfl
theorem wp_aug {op : Int → Int → Int} {i : Nat} {f : M D} : wpx E (maug op i f) ρ QS ↔ augQ ρ[i]? fun a => wpx E f ρ fun y ρ1 => optQ (toI y) fun b => setQ ρ1[i]? (QS .nx (ρ1.set i (some (.d (.int (op a b)))))) := by
  have bad : ∀ {r : M Z.Flow}, r ρ = .bad → (wpx E r ρ QS ↔ False) := fun {r} h => by unfold wpx; rw [h]
  have key : ∀ a : Int, ρ[i]? = some (some (.d (.int a))) → (wpx E (maug op i f) ρ QS ↔ wpx E (mbind f fun y => match y with
    | .int b => mstore i (.d (.int (op a b)))
    | _ => mbad) ρ QS) := fun a h => by unfold wpx maug; rw [h]; try exact Iff.rfl
  cases h : ρ[i]? with
  | none => exact bad (by unfold maug; rw [h])
  | some u => cases u with
    | none => exact bad (by unfold maug; rw [h])
    | some sv => cases sv with
      | own b ds => exact bad (by unfold maug; rw [h])
      | ex a => exact bad (by unfold maug; rw [h])
      | dct a => exact bad (by unfold maug; rw [h])
      | tre a b => exact bad (by unfold maug; rw [h])
      | d x => cases x with
        | int a =>
          rw [key a h, wp_bind]
          show _ ↔ wpx E f ρ _
          refine wp_congr fun y ρ1 => ?_
          cases y with
          | int b => show wpx E (mstore i (.d (.int (op a b)))) ρ1 QS ↔ optQ (some b) _; rw [optQ_some, wp_store]
          | non => show wpx E mbad ρ1 QS ↔ optQ none _; rw [optQ_none, wp_bad]
          | bl b => show wpx E mbad ρ1 QS ↔ optQ none _; rw [optQ_none, wp_bad]
          | dik k b => show wpx E mbad ρ1 QS ↔ optQ none _; rw [optQ_none, wp_bad]
          | dit k b => show wpx E mbad ρ1 QS ↔ optQ none _; rw [optQ_none, wp_bad]
          | str b => show wpx E mbad ρ1 QS ↔ optQ none _; rw [optQ_none, wp_bad]
          | tup b => show wpx E mbad ρ1 QS ↔ optQ none _; rw [optQ_none, wp_bad]
          | lst b => show wpx E mbad ρ1 QS ↔ optQ none _; rw [optQ_none, wp_bad]
          | kls b => show wpx E mbad ρ1 QS ↔ optQ none _; rw [optQ_none, wp_bad]
        | non => exact bad (by unfold maug; rw [h])
        | bl b => exact bad (by unfold maug; rw [h])
        | str b => exact bad (by unfold maug; rw [h])
        | tup b => exact bad (by unfold maug; rw [h])
        | lst b => exact bad (by unfold maug; rw [h])
        | kls b => exact bad (by unfold maug; rw [h])
        | dik k b => exact bad (by unfold maug; rw [h])
        | dit k b => exact bad (by unfold maug; rw [h])
theorem back_own {b : Bool} {x y : List D} : (SV.own b x).back (.own true y) = some (.own b y) := rfl
theorem addI_ {a b : Int} : addI a b = a + b := rfl
theorem subI_ {a b : Int} : subI a b = a - b := rfl
end
/-- a for over what stands for a typed list -/
theorem wp_for_map {E : Exn → En → Prop} {ρ : En} {QS : Z.Flow → En → Prop} {t : D → M Unit} {b : M Z.Flow} {α : Type} (f : α → D) (xs : List α) (I : List α → En → Prop) (h0 : I [] ρ)
    (hs : ∀ pre x post ρ, xs = pre ++ x :: post → I pre ρ → wp (t (f x)) ρ fun _ ρ1 => wpx E b ρ1 fun fl ρ2 => turnQ fl (I (pre ++ [x]) ρ2) (QS .nx ρ2) (QS fl ρ2))
    (hd : ∀ ρ, I xs ρ → QS .nx ρ) : wpx E (mfor t b (xs.map f)) ρ QS := by
  have key : ∀ (post pre : List α) (ρ : En), xs = pre ++ post → I pre ρ → wpx E (mfor t b (post.map f)) ρ QS := by
    intro post
    induction post with
    | nil => intro pre ρ e h; rw [List.append_nil] at e; subst e; exact wp_for_nil.mpr (hd ρ h)
    | cons x post ih =>
      intro pre ρ e h
      rw [List.map_cons]
      refine wp_for_cons.mpr (wp_mono (hs pre x post ρ e h) fun _ ρ1 h1 => wp_mono h1 fun fl ρ2 h2 => ?_)
      have e' : xs = (pre ++ [x]) ++ post := by rw [e]; simp
      cases fl with
      | nx => exact ih _ ρ2 e' h2
      | ct => exact ih _ ρ2 e' h2
      | bk => exact h2
      | rt z => exact h2
      | rf z => exact h2
      | rtr z => exact h2
  exact key xs [] ρ rfl h0
/-! ### lists of lists of one's own -/
def treQ (s : Option (Option SV)) (P : Bool → List El → Prop) : Prop := match s with
  | some (some (.tre b es)) => P b es
  | _ => False
theorem treQ_tre {b : Bool} {es : List El} {P : Bool → List El → Prop} : treQ (some (some (.tre b es))) P ↔ P b es := Iff.rfl
def elD (e : Option El) (P : D → Prop) : Prop := match e with
  | some (.d x) => P x
  | _ => False
def elP (e : Option El) (P : Addr → List D → Prop) : Prop := match e with
  | some (.p c ds) => P c ds
  | _ => False
theorem elD_d {x : D} {P : D → Prop} : elD (some (.d x)) P ↔ P x := Iff.rfl
theorem elP_p {c : Addr} {x : List D} {P : Addr → List D → Prop} : elP (some (.p c x)) P ↔ P c x := Iff.rfl
section
variable {E : Exn → En → Prop} {ρ : En} {Q : D → En → Prop} {QS : Z.Flow → En → Prop}
theorem wp_tix {i k : Nat} : wpx E (mtix i k) ρ Q ↔ treQ ρ[i]? fun _ es => elD es[k]? fun x => Q x ρ := by
  unfold wpx mtix treQ elD
  cases ρ[i]? with
  | none => exact Iff.rfl
  | some u => cases u with
    | none => exact Iff.rfl
    | some sv => cases sv with
      | tre b es =>
        simp only
        cases es[k]? with
        | none => exact Iff.rfl
        | some z => cases z <;> exact Iff.rfl
      | d x => exact Iff.rfl
      | own b ds => exact Iff.rfl
      | ex a => exact Iff.rfl
      | dct x => exact Iff.rfl
theorem wp_tlen {i k : Nat} : wpx E (mtlen i k) ρ Q ↔ treQ ρ[i]? fun _ es => elP es[k]? fun _ ds => Q (.int (ds.length : Nat)) ρ := by
  unfold wpx mtlen treQ elP
  cases ρ[i]? with
  | none => exact Iff.rfl
  | some u => cases u with
    | none => exact Iff.rfl
    | some sv => cases sv with
      | tre b es =>
        simp only
        cases es[k]? with
        | none => exact Iff.rfl
        | some z => cases z <;> exact Iff.rfl
      | d x => exact Iff.rfl
      | own b ds => exact Iff.rfl
      | ex a => exact Iff.rfl
      | dct x => exact Iff.rfl
theorem wp_tpop {i k : Nat} {n : Int} : wpx E (mtpop i k n) ρ Q ↔ treQ ρ[i]? fun b es => elP es[k]? fun c ds => optQ (popAtD ds (.int n)) fun z => Q z.1 (ρ.set i (some (.tre b (es.set k (.p c z.2))))) := by
  unfold wpx mtpop treQ elP
  cases ρ[i]? with
  | none => exact Iff.rfl
  | some u => cases u with
    | none => exact Iff.rfl
    | some sv => cases sv with
      | tre b es =>
        simp only
        cases es[k]? with
        | none => exact Iff.rfl
        | some z => cases z with
          | d x => exact Iff.rfl
          | p c ds =>
            simp only
            cases popAtD ds (.int n) with
            | none => exact ⟨False.elim, fun ⟨_, e, _⟩ => (by cases e)⟩
            | some z => exact ⟨fun q => ⟨_, rfl, q⟩, fun ⟨_, e, q⟩ => (by cases e; exact q)⟩
      | d x => exact Iff.rfl
      | own b ds => exact Iff.rfl
      | ex a => exact Iff.rfl
      | dct x => exact Iff.rfl
theorem wp_tset {i k : Nat} {f : M D} : wpx E (mtset i k f) ρ QS ↔ wpx E f ρ fun x ρ1 => treQ ρ1[i]? fun b es => elD es[k]? fun _ => QS .nx (ρ1.set i (some (.tre b (es.set k (.d x))))) := by
  unfold mtset
  rw [wp_bind]
  refine wp_congr fun x ρ1 => ?_
  unfold wpx treQ elD
  simp only
  cases ρ1[i]? with
  | none => exact Iff.rfl
  | some u => cases u with
    | none => exact Iff.rfl
    | some sv => cases sv with
      | tre b es =>
        simp only
        cases es[k]? with
        | none => exact Iff.rfl
        | some z => cases z <;> exact Iff.rfl
      | d x => exact Iff.rfl
      | own b ds => exact Iff.rfl
      | ex a => exact Iff.rfl
      | dct x => exact Iff.rfl
end
section
variable {E : Exn → En → Prop} {ρ : En} {QS : Z.Flow → En → Prop}
def ownF (s : Option (Option SV)) (P : List D → Prop) : Prop := match s with
  | some (some (.own false ds)) => P ds
  | _ => False
theorem ownF_own {x : List D} {P : List D → Prop} : ownF (some (some (.own false x))) P ↔ P x := Iff.rfl
theorem wp_retT {j : Nat} {fs : M (List D)} : wpx E (mretT j fs) ρ QS ↔ ownF ρ[j]? fun _ => wpx E fs ρ fun xs ρ1 => ownF ρ1[j]? fun ds => xs.length < 1000 ∧ QS (.rtr (.l ds :: xs.map TL.d)) (ρ1.set j none) := by
  have key : ∀ ds0, ρ[j]? = some (some (.own false ds0)) → (wpx E (mretT j fs) ρ QS ↔ wpx E fs ρ fun xs ρ1 => ownF ρ1[j]? fun ds => xs.length < 1000 ∧ QS (.rtr (.l ds :: xs.map TL.d)) (ρ1.set j none)) := fun ds0 h => by
    have e : mretT j fs ρ = mbind fs (fun xs ρ1 => match ρ1[j]? with
      | some (some (.own false ds)) => if xs.length < 1000 then Rs.ok (Z.Flow.rtr (.l ds :: xs.map TL.d)) (ρ1.set j none) else .bad
      | _ => .bad) ρ := by unfold mretT; rw [h]; try rfl
    have e2 : wpx E (mretT j fs) ρ QS ↔ wpx E (mbind fs (fun xs ρ1 => match ρ1[j]? with
      | some (some (.own false ds)) => if xs.length < 1000 then Rs.ok (Z.Flow.rtr (.l ds :: xs.map TL.d)) (ρ1.set j none) else .bad
      | _ => .bad)) ρ QS := by unfold wpx; rw [e]
    rw [e2, wp_bind]
    refine wp_congr fun xs ρ1 => ?_
    unfold wpx ownF
    simp only
    cases ρ1[j]? with
    | none => exact Iff.rfl
    | some u => cases u with
      | none => exact Iff.rfl
      | some sv => cases sv with
        | own b ds =>
          cases b with
          | true => exact Iff.rfl
          | false =>
            simp only
            by_cases hz : xs.length < 1000
            · rw [if_pos hz]; exact ⟨fun h => ⟨hz, h⟩, fun h => h.2⟩
            · rw [if_neg hz]; exact ⟨fun h => h.elim, fun h => absurd h.1 hz⟩
        | d x => exact Iff.rfl
        | tre b es => exact Iff.rfl
        | ex a => exact Iff.rfl
        | dct x => exact Iff.rfl
  have bad : mretT j fs ρ = .bad → (wpx E (mretT j fs) ρ QS ↔ False) := fun h => by unfold wpx; rw [h]
  unfold ownF
  cases h : ρ[j]? with
  | none => exact bad (by unfold mretT; rw [h])
  | some u => cases u with
    | none => exact bad (by unfold mretT; rw [h])
    | some sv => cases sv with
      | own b ds =>
        cases b with
        | true => exact bad (by unfold mretT; rw [h])
        | false => exact key ds h
      | d x => exact bad (by unfold mretT; rw [h])
      | tre b es => exact bad (by unfold mretT; rw [h])
      | ex a => exact bad (by unfold mretT; rw [h])
      | dct x => exact bad (by unfold mretT; rw [h])
def fillE : List TL → List El
  | [] => []
  | .d x :: r => .d x :: fillE r
  | .l ds :: r => .p 0 ds :: fillE r
theorem shape_fill : ∀ ts, shapeE (fillE ts) = ts
  | [] => rfl
  | .d x :: r => congrArg (TL.d x :: ·) (shape_fill r)
  | .l ds :: r => congrArg (TL.l ds :: ·) (shape_fill r)
/-- a call that gives a new tree: the rest for every place of it -/
theorem wp_newT {i : Nat} {m : Fn} {args : List Arg} {rest : M Z.Flow} (hio : noIo ρ = true) (h : wpx E (margs args) ρ fun svs ρ1 => fwp m svs fun rv outs => ∃ ts, rv = .ftr ts ∧ optQ (wback args outs ρ1) fun ρ2 => (i < ρ2.length ∧ noOwn ρ2 i = true) ∧ ∃ x, (∀ es, shapeE es = ts → wp rest (ρ2.set i (some (.tre false es))) fun fl _ => fl = .rt x) ∧ QS (.rt x) (nones ρ)) : wpx E (mnewT i m args rest) ρ QS := by
  have e : mnewT i m args rest ρ = mbind (margs args) (fun svs ρ1 => match m svs with
    | .ok (.ftr ts) outs => match wback args outs ρ1 with
      | some ρ2 => allT i ts rest ρ ρ2
      | none => .bad
    | _ => .bad) ρ := by unfold mnewT; rw [if_pos hio]; try rfl
  have e2 : wpx E (mnewT i m args rest) ρ QS ↔ wpx E (mbind (margs args) (fun svs ρ1 => match m svs with
    | .ok (.ftr ts) outs => match wback args outs ρ1 with
      | some ρ2 => allT i ts rest ρ ρ2
      | none => .bad
    | _ => .bad)) ρ QS := by unfold wpx; rw [e]
  rw [e2, wp_bind]
  refine wp_mono h fun svs ρ1 hh => ?_
  obtain ⟨rv, outs, em, ts, rfl, ρ2, ew, hi, x, hall, q⟩ := fwp_ok hh
  have run : ∀ es, shapeE es = ts → ∃ ρ', rest (ρ2.set i (some (.tre false es))) = .ok (.rt x) ρ' := fun es hs => by
    have := hall es hs
    unfold wp wpx at this
    cases er : rest (ρ2.set i (some (.tre false es))) with
    | ok fl ρ' => rw [er] at this; exact ⟨ρ', by rw [this]⟩
    | exc z ρ' => rw [er] at this; exact this.elim
    | bad => rw [er] at this; exact this.elim
  have hc : (i < ρ2.length ∧ noOwn ρ2 i = true) ∧ ∃ x, ∀ es, shapeE es = ts → ∃ ρ', rest (ρ2.set i (some (.tre false es))) = .ok (.rt x) ρ' := ⟨hi, x, run⟩
  have ex : Classical.choose hc.2 = x := by
    obtain ⟨ρ', h1⟩ := Classical.choose_spec hc.2 (fillE ts) (shape_fill ts)
    obtain ⟨ρ'', h2⟩ := run (fillE ts) (shape_fill ts)
    rw [h1] at h2
    injection h2 with h3
    injection h3
  unfold wpx
  simp only [em, ew]
  unfold allT
  rw [dif_pos hc]
  show QS (.rt _) _
  rw [ex]
  exact q
end
theorem back_tre {b : Bool} {x y : List El} (h : innE y = innE x) : (SV.tre b x).back (.tre true y) = some (.tre b y) := if_pos h
theorem seqQ_rtr {x : List TL} {P R : Prop} : seqQ (.rtr x) P R ↔ R := Iff.rfl
theorem turnQ_rtr {x : List TL} {P B R : Prop} : turnQ (.rtr x) P B R ↔ R := Iff.rfl
theorem endQ_rtr {x : List TL} {P : RV → Prop} : endQ (.rtr x) P ↔ P (.ftr x) := Iff.rfl
end Z

/-! Z: lists of lists, said backwards -/
namespace Z
open PySem L2
def fillN : Nat → List TL → List El
  | _, [] => []
  | n, .d x :: r => .d x :: fillN n r
  | n, .l ds :: r => .p n ds :: fillN (n + 1) r
theorem shape_fillN : ∀ (n : Nat) (ts : List TL), shapeE (fillN n ts) = ts
  | _, [] => rfl
  | n, .d x :: r => congrArg (TL.d x :: ·) (shape_fillN n r)
  | n, .l ds :: r => congrArg (TL.l ds :: ·) (shape_fillN (n + 1) r)
theorem fillN_ge : ∀ (n : Nat) (ts : List TL), ∀ c ∈ innE (fillN n ts), n ≤ c
  | _, [], c, h => by cases h
  | n, .d x :: r, c, h => fillN_ge n r c h
  | n, .l ds :: r, c, h => by
    rcases List.mem_cons.mp h with rfl | h
    · exact Nat.le_refl _
    · exact Nat.le_of_succ_le (fillN_ge (n + 1) r c h)
theorem fillN_nd : ∀ (n : Nat) (ts : List TL), (innE (fillN n ts)).Nodup
  | _, [] => List.nodup_nil
  | n, .d x :: r => fillN_nd n r
  | n, .l ds :: r => List.nodup_cons.mpr ⟨fun h => absurd (fillN_ge (n + 1) r n h) (by omega), fillN_nd (n + 1) r⟩
/-- data of a shape -/
def tlD : TL → D
  | .d x => x
  | .l ds => .lst ds
theorem elsD_shape : ∀ es, elsD es = (shapeE es).map tlD
  | [] => rfl
  | .d x :: r => congrArg (x :: ·) (elsD_shape r)
  | .p c ds :: r => congrArg (D.lst ds :: ·) (elsD_shape r)
theorem shape_set : ∀ {es : List El} {k : Nat} {c : Addr} {ds : List D}, shapeE (es.set k (.p c ds)) = (shapeE es).set k (.l ds)
  | [], _, _, _ => rfl
  | .d x :: r, 0, _, _ => rfl
  | .p a x :: r, 0, _, _ => rfl
  | .d x :: r, k + 1, c, ds => congrArg (TL.d x :: ·) (shape_set (es := r) (k := k))
  | .p a x :: r, k + 1, c, ds => congrArg (TL.l x :: ·) (shape_set (es := r) (k := k))
theorem shape_at : ∀ {es : List El} {k : Nat} {ds : List D}, (shapeE es)[k]? = some (.l ds) → ∃ c, es[k]? = some (.p c ds)
  | [], _, _, e => by simp [shapeE] at e
  | .d x :: r, 0, _, e => by simp [shapeE] at e
  | .p a x :: r, 0, _, e => by simp [shapeE] at e; subst e; exact ⟨a, rfl⟩
  | .d x :: r, k + 1, ds, e => by simpa using shape_at (es := r) (k := k) (by simpa [shapeE] using e)
  | .p a x :: r, k + 1, ds, e => by simpa using shape_at (es := r) (k := k) (by simpa [shapeE] using e)
theorem valQ_tre {es : List El} {P : D → Prop} : valQ (some (some (.tre false es))) P ↔ P (.lst (elsD es)) := Iff.rfl
theorem itemsL_lst {xs : List D} : itemsL (.lst xs) = some xs := rfl
section
variable {E : Exn → En → Prop} {ρ : En} {Q : D → En → Prop} {QS : Z.Flow → En → Prop}
theorem wpx_of_eq {α : Type} {f g : M α} {QA : α → En → Prop} (e : f ρ = g ρ) : wpx E f ρ QA ↔ wpx E g ρ QA := by unfold wpx; rw [e]
theorem wp_itemsL {p : M D} {QF : List D → En → Prop} : wpx E (mitemsL p) ρ QF ↔ wpx E p ρ fun x ρ1 => optQ (itemsL x) fun ds => QF ds ρ1 := by simp only [mitemsL, wp_bind, wp_opt]
theorem wp_zipTL {p q : M D} {QF : List D → En → Prop} : wpx E (mzipTL p q) ρ QF ↔ wpx E p ρ fun x ρ1 => wpx E q ρ1 fun y ρ2 => optQ (zipM x y) fun ds => QF ds ρ2 := by simp only [mzipTL, wp_bind, wp_opt]
theorem wp_zipTT {p q : M D} {QF : List D → En → Prop} : wpx E (mzipTT p q) ρ QF ↔ wpx E p ρ fun x ρ1 => wpx E q ρ1 fun y ρ2 => optQ (zipMT x y) fun ds => QF ds ρ2 := by simp only [mzipTT, wp_bind, wp_opt]
theorem zipM_ {xs ys : List D} : zipM (.tup xs) (.lst ys) = some (zipL xs ys) := rfl
theorem wp_newX {i : Nat} {f : M (List TL)} {rest : M Z.Flow} (h : wpx E f ρ fun ts ρ1 => (i < ρ1.length ∧ noOwn ρ1 i = true) ∧ ∃ x ρo, (∀ es, shapeE es = ts → (innE es).Nodup → wp rest (ρ1.set i (some (.tre false es))) fun fl ρ' => fl = .rt x ∧ ioOnly ρ' = ρo) ∧ QS (.rt x) ρo) : wpx E (mnewX i f rest) ρ QS := by
  unfold mnewX
  rw [wp_bind]
  refine wp_mono h fun ts ρ1 hh => ?_
  obtain ⟨hi, x, ρo, hall, q⟩ := hh
  have run : ∀ es, shapeE es = ts → (innE es).Nodup → ∃ ρ', rest (ρ1.set i (some (.tre false es))) = .ok (.rt x) ρ' ∧ ioOnly ρ' = ρo := fun es hs hn => by
    have := hall es hs hn
    unfold wp wpx at this
    cases er : rest (ρ1.set i (some (.tre false es))) with
    | ok fl ρ' => rw [er] at this; exact ⟨ρ', by rw [this.1], this.2⟩
    | exc z ρ' => rw [er] at this; exact this.elim
    | bad => rw [er] at this; exact this.elim
  have hc : (i < ρ1.length ∧ noOwn ρ1 i = true) ∧ ∃ q : D × En, ∀ es, shapeE es = ts → (innE es).Nodup → ∃ ρ', rest (ρ1.set i (some (.tre false es))) = .ok (.rt q.1) ρ' ∧ ioOnly ρ' = q.2 := ⟨hi, (x, ρo), run⟩
  have ex : Classical.choose hc.2 = (x, ρo) := by
    obtain ⟨ρ', h1, h3⟩ := Classical.choose_spec hc.2 (fillN 0 ts) (shape_fillN 0 ts) (fillN_nd 0 ts)
    obtain ⟨ρ'', h2, h4⟩ := run (fillN 0 ts) (shape_fillN 0 ts) (fillN_nd 0 ts)
    rw [h1] at h2
    injection h2 with h5 h6
    injection h5 with h5
    subst h6
    exact Prod.ext h5 (h3.symm.trans h4)
  unfold wpx allX
  rw [dif_pos hc, ex]
  exact q
theorem wp_tal {i j : Nat} {f : M D} (h : treQ ρ[i]? fun _ _ => wpx E f ρ fun z ρ1 => treQ ρ1[i]? fun _ es => ∃ c, atP es z = some c ∧ noOwn ρ1 j = true ∧ QS .nx (ρ1.set j (some (.ex c)))) : wpx E (mtal i j f) ρ QS := by
  unfold treQ at h
  split at h
  · rename_i b es e
    refine (wpx_of_eq (g := mbind f (fun z ρ1 => match ρ1[i]? with
    | some (some (.tre _ es)) => (match atP es z with
      | some c => if noOwn ρ1 j = true then .ok .nx (ρ1.set j (some (.ex c))) else .bad
      | none => .bad)
    | _ => .bad)) (by (unfold mtal; simp only [e]) <;> rfl)).mpr ?_
    rw [wp_bind]
    refine wp_mono h fun z ρ1 hh => ?_
    unfold treQ at hh
    split at hh
    · rename_i b1 es1 e1
      obtain ⟨c, hc, hn, q⟩ := hh
      unfold wpx
      simp only [e1, hc, hn, if_true]
      exact q
    · exact hh.elim
  · exact h.elim
theorem wp_tput {i j : Nat} {f g : M D} (h : wpx E g ρ fun x ρ1 => (∃ c, ρ1[j]? = some (some (.ex c))) ∧ wpx E f ρ1 fun z ρ2 => treQ ρ2[i]? fun b es => ∃ c k ds ds', ρ2[j]? = some (some (.ex c)) ∧ findP es c = some (k, ds) ∧ setIxD ds z x = some ds' ∧ QS .nx (ρ2.set i (some (.tre b (es.set k (.p c ds')))))) : wpx E (mtput j i f g) ρ QS := by
  unfold mtput
  rw [wp_bind]
  refine wp_mono h fun x ρ1 hh => ?_
  obtain ⟨⟨c0, e0⟩, hh⟩ := hh
  refine (wpx_of_eq (g := mbind f (fun z ρ1 => match ρ1[j]? with
    | some (some (.ex c)) => putC i c z x ρ1
    | _ => .bad)) (by (simp only [e0]) <;> rfl)).mpr ?_
  rw [wp_bind]
  refine wp_mono hh fun z ρ2 h2 => ?_
  unfold treQ at h2
  split at h2
  · rename_i b es e
    obtain ⟨c, k, ds, ds', e1, hf, hs, q⟩ := h2
    unfold wpx putC
    simp only [e1, e, hf, hs]
    exact q
  · exact h2.elim
theorem wp_trlen {i : Nat} : wpx E (mtrlen i) ρ Q ↔ treQ ρ[i]? fun _ es => Q (.int (es.length : Nat)) ρ := by
  unfold wpx mtrlen treQ
  cases ρ[i]? with
  | none => exact Iff.rfl
  | some u => cases u with
    | none => exact Iff.rfl
    | some sv => cases sv <;> exact Iff.rfl
end
section
variable {E : Exn → En → Prop} {ρ : En} {vs : List Nat} {fs : M (List D)} {t : D → M Unit} {c : M Bool} {g : M (List D)} {QF : List TL → En → Prop} {QL : List (List D) → En → Prop}
theorem wp_compX : wpx E (mcompX vs fs t c g) ρ QF ↔ wpx E fs ρ fun ds ρ1 => vs.all (free1 ρ1) = true ∧ wp (cloopX t c g vs ds []) (clr ρ1 vs) fun acc ρ2 => QF (acc.map TL.l) (rst ρ1 ρ2 vs) := by
  simp only [mcompX, wp_bind]
  refine wp_congr fun ds ρ1 => ?_
  unfold wp wpx noE
  dsimp only
  by_cases hv : vs.all (free1 ρ1) = true
  · rw [if_pos hv]
    cases cloopX t c g vs ds [] (clr ρ1 vs) with
    | bad => exact ⟨fun z => False.elim z, fun h => h.2⟩
    | exc z ρ3 => exact ⟨fun z => False.elim z, fun h => h.2⟩
    | ok a ρ3 => exact ⟨fun q => ⟨hv, q⟩, fun h => h.2⟩
  · rw [if_neg hv]
    exact ⟨fun z => False.elim z, fun h => absurd h.1 hv⟩
theorem wp_cloopX_nil {acc : List (List D)} : wp (cloopX t c g vs [] acc) ρ QL ↔ QL acc ρ := wp_pure
theorem wp_cloopX_cons {x : D} {r : List D} {acc : List (List D)} (hl : acc.length < 16777216) : wp (cloopX t c g vs (x :: r) acc) ρ QL ↔ wp (t x) ρ fun _ ρ1 => wp c ρ1 fun b ρ2 => ifQ b (wp g ρ2 fun y ρ3 => wp (cloopX t c g vs r (acc ++ [y])) (clr ρ3 vs) QL) (wp (cloopX t c g vs r acc) (clr ρ2 vs) QL) := by
  have hl : acc.length < sizeLine := by rw [sizeLine_eq]; exact hl
  unfold wp wpx noE
  rw [cloopX]
  dsimp only
  cases t x ρ with
  | bad => exact Iff.rfl
  | exc z ρ1 => exact Iff.rfl
  | ok u ρ1 =>
    dsimp only
    cases c ρ1 with
    | bad => exact Iff.rfl
    | exc z ρ2 => exact Iff.rfl
    | ok bb ρ2 =>
      cases bb with
      | false => exact Iff.rfl
      | true =>
        dsimp only
        rw [ifQ_t]
        cases g ρ2 with
        | bad => exact Iff.rfl
        | exc z ρ3 => exact Iff.rfl
        | ok y ρ3 =>
          dsimp only
          rw [if_pos hl]
/-- elements that leave the frame as it is -/
theorem wp_cloopX_map {α : Type} (e : α → D) (v : α → List D) (xs : List α) (hn : xs.length ≤ 16777216)
    (h : ∀ x ∈ xs, wp (t (e x)) ρ fun _ ρ1 => wp c ρ1 fun bb ρ2 => bb = true ∧ wp g ρ2 fun y ρ3 => y = v x ∧ clr ρ3 vs = ρ)
    (q : QL (xs.map v) ρ) : wp (cloopX t c g vs (xs.map e) []) ρ QL := by
  have key : ∀ (post : List α) (acc : List (List D)), (∀ x ∈ post, x ∈ xs) → acc.length + post.length ≤ 16777216 → QL (acc ++ post.map v) ρ → wp (cloopX t c g vs (post.map e) acc) ρ QL := by
    intro post
    induction post with
    | nil => intro acc _ _ q; exact wp_cloopX_nil.mpr (by simpa using q)
    | cons x post ih =>
      intro acc hm hz q
      have hz' : acc.length + (post.length + 1) ≤ 16777216 := hz
      rw [List.map_cons]
      refine (wp_cloopX_cons (by omega)).mpr (wp_mono (h x (hm x (by simp))) fun _ ρ1 h1 => wp_mono h1 fun bb ρ2 h2 => ?_)
      obtain ⟨e1, h2⟩ := h2
      subst e1
      rw [ifQ_t]
      refine wp_mono h2 fun y ρ3 h3 => ?_
      obtain ⟨e2, e3⟩ := h3
      subst e2
      rw [e3]
      exact ih _ (fun z hz => hm z (by simp [hz])) (by simp; omega) (by simpa using q)
  exact key xs [] (fun _ h => h) (by simpa using hn) (by simpa using q)
end
/-! ### a slot's list, lent to be read -/
def slotOk (s s' : Option SV) : Prop := match s' with
  | none => True
  | some (.d y) => s = some (.d y)
  | some u => safeU u = true
def slotsOk : En → En → Prop
  | [], [] => True
  | s :: r, s' :: r' => slotOk s s' ∧ slotsOk r r'
  | _, _ => False
theorem slotsOk_at : ∀ {ρ ρ' : En} {i : Nat} {u : SV}, slotsOk ρ ρ' → ρ'[i]? = some (some u) → (∃ y, u = .d y ∧ ρ[i]? = some (some u)) ∨ safeU u = true
  | [], [], i, u, _, e => by simp at e
  | [], _ :: _, _, _, h, _ => h.elim
  | _ :: _, [], _, _, h, _ => h.elim
  | s :: r, s' :: r', 0, u, h, e => by
    simp at e
    subst e
    have h := h.1
    cases u with
    | d y => exact .inl ⟨y, rfl, by have h : s = some (.d y) := h; subst h; rfl⟩
    | own b ds => exact .inr h
    | ex a => exact .inr h
    | dct x => exact .inr h
    | tre b es => exact .inr h
  | s :: r, s' :: r', i + 1, u, h, e => by
    have := slotsOk_at (i := i) h.2 (by simpa using e)
    simpa using this
theorem wp_frz {E : Exn → En → Prop} {ρ : En} {Q : D → En → Prop} {j : Nat} {f : M D} {ds : List D} (e : ρ[j]? = some (some (.own false ds))) (h : wp f (ρ.set j (some (.d (.lst ds)))) fun x ρ' => safeD x = true ∧ ρ'[j]? = some (some (.d (.lst ds))) ∧ slotsOk (ρ.set j (some (.d (.lst ds)))) ρ' ∧ Q x (ρ'.set j (some (.own false ds)))) : wpx E (mfrz j f) ρ Q := by
  unfold wp wpx at h
  unfold wpx mfrz
  rw [e]
  simp only
  cases ef : f (ρ.set j (some (.d (.lst ds)))) with
  | bad => rw [ef] at h; exact h.elim
  | exc z ρ' => rw [ef] at h; exact h.elim
  | ok x ρ' =>
    rw [ef] at h
    obtain ⟨h1, h2, h3, q⟩ := h
    have ok : FrzOk j ds ρ x ρ' := ⟨h1, h2, fun i u hi eu => by
      rcases slotsOk_at h3 eu with ⟨y, h4, h5⟩ | h4
      · rw [List.getElem?_set_ne (Ne.symm hi)] at h5
        exact .inl ⟨y, h4, h5⟩
      · exact .inr h4⟩
    simp only [if_pos ok]
    exact q
/-! ### the state that draws are made from: great numbers, what is left of one, a seed, a count -/
structure Sta where
  g : List Int
  c : Int
  s : Int
  n : Int
def stE (a : Addr) (t : Sta) : List El := [.p a (t.g.map D.int), .d (.int t.c), .d (.int t.s), .d (.int t.n)]
def shT (t : Sta) : List TL := [.l (t.g.map D.int), .d (.int t.c), .d (.int t.s), .d (.int t.n)]
theorem back_st {b : Bool} {a : Addr} {t t' : Sta} : SV.back (.tre b (stE a t)) (.tre true (stE a t')) = some (.tre b (stE a t')) := by
  unfold SV.back
  exact if_pos rfl
theorem safe_st {b : Bool} {a : Addr} {t : Sta} : safeU (.tre b (stE a t)) = true := by
  have hg : ∀ g : List Int, safeDs (g.map D.int) = true := fun g => by
    induction g with
    | nil => rfl
    | cons x r ih => simp only [List.map_cons, safeDs, safeD, ih, Bool.and_self]
  unfold stE
  simp only [safeU, safeE, hg, safeD, Bool.and_self]
theorem wp_frzT {E : Exn → En → Prop} {ρ : En} {Q : Bool → En → Prop} {j : Nat} {f : M Bool} {ds : List D} (e : ρ[j]? = some (some (.own false ds))) (h : wp f (ρ.set j (some (.d (.lst ds)))) fun x ρ' => ρ'[j]? = some (some (.d (.lst ds))) ∧ slotsOk (ρ.set j (some (.d (.lst ds)))) ρ' ∧ Q x (ρ'.set j (some (.own false ds)))) : wpx E (mfrzT j f) ρ Q := by
  unfold wp wpx at h
  unfold wpx mfrzT
  rw [e]
  simp only
  cases ef : f (ρ.set j (some (.d (.lst ds)))) with
  | bad => rw [ef] at h; exact h.elim
  | exc z ρ' => rw [ef] at h; exact h.elim
  | ok x ρ' =>
    rw [ef] at h
    obtain ⟨h2, h3, q⟩ := h
    have ok : FrzT j ds ρ ρ' := ⟨h2, fun i u hi eu => by
      rcases slotsOk_at h3 eu with ⟨y, h4, h5⟩ | h4
      · rw [List.getElem?_set_ne (Ne.symm hi)] at h5
        exact .inl ⟨y, h4, h5⟩
      · exact .inr h4⟩
    simp only [if_pos ok]
    exact q
theorem slotsOk_nil : slotsOk [] [] ↔ True := Iff.rfl
theorem slotsOk_cons {s s' : Option SV} {r r' : En} : slotsOk (s :: r) (s' :: r') ↔ slotOk s s' ∧ slotsOk r r' := Iff.rfl
theorem slotOk_none {s : Option SV} : slotOk s none ↔ True := Iff.rfl
theorem slotOk_d {y : D} : slotOk (some (.d y)) (some (.d y)) ↔ True := ⟨fun _ => True.intro, fun _ => rfl⟩
theorem slotOk_st {s : Option SV} {b : Bool} {a : Addr} {t : Sta} : slotOk s (some (.tre b (stE a t))) ↔ True := ⟨fun _ => True.intro, fun _ => safe_st⟩
theorem safeD_bl {b : Bool} : safeD (.bl b) = true := rfl
theorem safeD_int {b : Int} : safeD (.int b) = true := rfl
theorem safeD_non : safeD .non = true := rfl
theorem safeDs_ints (g : List Int) : safeDs (g.map D.int) = true := by
  induction g with
  | nil => rfl
  | cons x r ih => simp only [List.map_cons, safeDs, safeD, ih, Bool.and_self]
/-! ### a try with several clauses -/
/-- what the chain wishes of an exception -/
def chainQ (k : Chain) (E : Exn → En → Prop) (QS : Z.Flow → En → Prop) (e : Exn) (ρ : En) : Prop := match k e ρ with
  | .ok fl ρ' => QS fl ρ'
  | .exc z ρ' => E z ρ'
  | .bad => False
section
variable {E : Exn → En → Prop} {ρ : En} {QS : Z.Flow → En → Prop} {c : Str} {k : Chain}
theorem wp_tryM {g : M Z.Flow} (H : wpx (chainQ k E QS) g ρ QS) : wpx E (mtryM g k) ρ QS := by
  unfold wpx at H ⊢
  unfold mtryM
  cases eg : g ρ with
  | bad => rw [eg] at H; exact H
  | ok fl ρ1 => rw [eg] at H; exact H
  | exc e ρ1 =>
    rw [eg] at H
    have H : chainQ k E QS e ρ1 := H
    unfold chainQ at H
    simp only
    revert H
    cases k e ρ1 <;> exact id
theorem chain_named {e : Exn} {i : Nat} {sub : Str → Option Bool} {h : Exn → Addr → M Z.Flow} (h1 : sub e.cls = some true) (h2 : noOwn ρ i = true) (fl : Z.Flow) (ρ0 : En) (q : QS fl ρ0)
    (kk : ∀ a, wp (h e a) (ρ.set i (some (.ex a))) fun fl' ρ2 => fl' = fl ∧ noOwn ρ2 i = true ∧ ρ2.set i none = ρ0) : chainQ (cNamed i sub h k) E QS e ρ := by
  have st : ∀ a, strip i (h e a (ρ.set i (some (.ex a)))) = .ok fl ρ0 := fun a => by
    have ka := kk a
    unfold wp wpx at ka
    cases er : h e a (ρ.set i (some (.ex a))) with
    | bad => rw [er] at ka; exact ka.elim
    | exc x y => rw [er] at ka; exact ka.elim
    | ok fl' ρ2 =>
      rw [er] at ka
      obtain ⟨rfl, n2, rfl⟩ := ka
      simp only [strip]
      rw [if_pos n2]
  unfold chainQ cNamed
  simp only [h1]
  unfold handled
  rw [if_pos ⟨h2, fun a => (st a).trans (st 0).symm⟩, st 0]
  exact q
theorem chain_plain {e : Exn} {sub : Str → Option Bool} {h : Exn → M Z.Flow} (h1 : sub e.cls = some true) (kk : wp (h e) ρ QS) : chainQ (cPlain sub h k) E QS e ρ := by
  unfold wp wpx at kk
  unfold chainQ cPlain
  simp only [h1]
  cases er : h e ρ with
  | bad => rw [er] at kk; exact kk.elim
  | exc x y => rw [er] at kk; exact kk.elim
  | ok fl ρ2 => rw [er] at kk; exact kk
theorem chain_skipN {e : Exn} {i : Nat} {sub : Str → Option Bool} {h : Exn → Addr → M Z.Flow} (h1 : sub e.cls = some false) (kk : chainQ k E QS e ρ) : chainQ (cNamed i sub h k) E QS e ρ := by
  unfold chainQ at kk ⊢
  unfold cNamed
  simp only [h1]
  exact kk
theorem chain_skipP {e : Exn} {sub : Str → Option Bool} {h : Exn → M Z.Flow} (h1 : sub e.cls = some false) (kk : chainQ k E QS e ρ) : chainQ (cPlain sub h k) E QS e ρ := by
  unfold chainQ at kk ⊢
  unfold cPlain
  simp only [h1]
  exact kk
theorem chain_end {e : Exn} (h : E e ρ) : chainQ cEnd E QS e ρ := h
theorem ltT_int {i j : Int} : ltTD (.int i) (.int j) = some (.bl (decide (i < j))) := rfl
/-! ### exceptions with a place -/
theorem wp_raiseP {m : M D} (h : wpx E m ρ fun x ρ1 => ∃ n : Int, x = .int n ∧ E ⟨c, some ("place", n)⟩ ρ1) : wpx E (mraiseP c m) ρ QS := by
  unfold mraiseP
  refine wp_bind.mpr (wp_mono h fun x ρ1 ⟨n, e, q⟩ => ?_)
  subst e
  unfold wpx
  exact q
theorem wp_fld {Q : D → En → Prop} {i : Nat} {a : Addr} {ks : List Str} {n : Int} (h : exQ ρ[i]? a (Q (.int n) ρ)) (hc : c ∈ ks) : wpx E (mfld i a ks ⟨c, some ("place", n)⟩) ρ Q := by
  unfold exQ at h
  split at h
  · rename_i b e1
    obtain ⟨rfl, q⟩ := h
    unfold wpx mfld
    rw [e1]
    simp only [hc, and_self, if_true]
    exact q
  · exact h.elim
end
end Z

namespace G
open PySem L2 Z
noncomputable section
def top (i : Nat) : Stmt := PySem.Challenge.pw_everyhands_k95_whole_said_at_tables.main.body.getD i (.Pass ⟨0, 0, 0, 0⟩)
abbrev s_is_integer : Stmt := top 16
abbrev s_is_from_to : Stmt := top 18
abbrev s_check_number : Stmt := top 19
abbrev s_check_numbers : Stmt := top 20
abbrev s_are_pairs : Stmt := top 21
abbrev s_check_edges : Stmt := top 22
abbrev s_check_bits : Stmt := top 25
abbrev s_check_round : Stmt := top 26
abbrev s_words_said : Stmt := top 27
abbrev s_said : Stmt := top 28
abbrev s_sum_said : Stmt := top 29
abbrev s__law_pool : Stmt := top 31
abbrev s__law_take : Stmt := top 32
abbrev s__law_same : Stmt := top 33
abbrev s__law_ties : Stmt := top 34
abbrev s__law_words : Stmt := top 35
abbrev s__law_said_fits : Stmt := top 36
abbrev s__law_bad_number : Stmt := top 37
abbrev s__law_bad_pair : Stmt := top 38
abbrev s__law_bad_ties : Stmt := top 39
abbrev s__law_bad_bits : Stmt := top 40
abbrev s__law_refusal : Stmt := top 41
abbrev s__law_refused : Stmt := top 42
abbrev s_law : Stmt := top 43
structure Txt (P : Program) (K : PySem.W.Frag) (mg : Str → Option Value) where
  a_is_integer : Addr
  fd_is_integer : FuncData
  F_is_integer : Fun K "is_integer" "is_integer" s_is_integer a_is_integer fd_is_integer
  b_is_integer : Binds K fd_is_integer ["value"] []
  g_is_integer : mg "is_integer" = some (.ref a_is_integer)
  a_is_from_to : Addr
  fd_is_from_to : FuncData
  F_is_from_to : Fun K "is_from_to" "is_from_to" s_is_from_to a_is_from_to fd_is_from_to
  b_is_from_to : Binds K fd_is_from_to ["value", "least", "most"] []
  g_is_from_to : mg "is_from_to" = some (.ref a_is_from_to)
  a_check_number : Addr
  fd_check_number : FuncData
  F_check_number : Fun K "check_number" "check_number" s_check_number a_check_number fd_check_number
  b_check_number : Binds K fd_check_number ["value", "least", "most"] []
  g_check_number : mg "check_number" = some (.ref a_check_number)
  a_check_numbers : Addr
  fd_check_numbers : FuncData
  F_check_numbers : Fun K "check_numbers" "check_numbers" s_check_numbers a_check_numbers fd_check_numbers
  b_check_numbers : Binds K fd_check_numbers ["value", "many", "most"] []
  g_check_numbers : mg "check_numbers" = some (.ref a_check_numbers)
  a_are_pairs : Addr
  fd_are_pairs : FuncData
  F_are_pairs : Fun K "are_pairs" "are_pairs" s_are_pairs a_are_pairs fd_are_pairs
  b_are_pairs : Binds K fd_are_pairs ["value", "people"] []
  g_are_pairs : mg "are_pairs" = some (.ref a_are_pairs)
  a_check_edges : Addr
  fd_check_edges : FuncData
  F_check_edges : Fun K "check_edges" "check_edges" s_check_edges a_check_edges fd_check_edges
  b_check_edges : Binds K fd_check_edges ["people", "value"] []
  g_check_edges : mg "check_edges" = some (.ref a_check_edges)
  a_check_bits : Addr
  fd_check_bits : FuncData
  F_check_bits : Fun K "check_bits" "check_bits" s_check_bits a_check_bits fd_check_bits
  b_check_bits : Binds K fd_check_bits ["value", "many"] []
  g_check_bits : mg "check_bits" = some (.ref a_check_bits)
  a_check_round : Addr
  fd_check_round : FuncData
  F_check_round : Fun K "check_round" "check_round" s_check_round a_check_round fd_check_round
  b_check_round : Binds K fd_check_round ["n", "edges"] []
  g_check_round : mg "check_round" = some (.ref a_check_round)
  a_words_said : Addr
  fd_words_said : FuncData
  F_words_said : Fun K "words_said" "words_said" s_words_said a_words_said fd_words_said
  b_words_said : Binds K fd_words_said ["n", "edges", "coins", "secrets"] []
  g_words_said : mg "words_said" = some (.ref a_words_said)
  a_said : Addr
  fd_said : FuncData
  F_said : Fun K "said" "said" s_said a_said fd_said
  b_said : Binds K fd_said ["n", "edges", "coins", "secrets"] []
  g_said : mg "said" = some (.ref a_said)
  a_sum_said : Addr
  fd_sum_said : FuncData
  F_sum_said : Fun K "sum_said" "sum_said" s_sum_said a_sum_said fd_sum_said
  b_sum_said : Binds K fd_sum_said ["n", "edges", "coins", "secrets"] []
  g_sum_said : mg "sum_said" = some (.ref a_sum_said)
  a__law_pool : Addr
  fd__law_pool : FuncData
  F__law_pool : Fun K "_law_pool" "_law_pool" s__law_pool a__law_pool fd__law_pool
  b__law_pool : Binds K fd__law_pool ["script"] []
  g__law_pool : mg "_law_pool" = some (.ref a__law_pool)
  a__law_take : Addr
  fd__law_take : FuncData
  F__law_take : Fun K "_law_take" "_law_take" s__law_take a__law_take fd__law_take
  b__law_take : Binds K fd__law_take ["pool", "many"] []
  g__law_take : mg "_law_take" = some (.ref a__law_take)
  a__law_same : Addr
  fd__law_same : FuncData
  F__law_same : Fun K "_law_same" "_law_same" s__law_same a__law_same fd__law_same
  b__law_same : Binds K fd__law_same ["found", "due"] []
  g__law_same : mg "_law_same" = some (.ref a__law_same)
  a__law_ties : Addr
  fd__law_ties : FuncData
  F__law_ties : Fun K "_law_ties" "_law_ties" s__law_ties a__law_ties fd__law_ties
  b__law_ties : Binds K fd__law_ties ["pool", "n"] []
  g__law_ties : mg "_law_ties" = some (.ref a__law_ties)
  a__law_words : Addr
  fd__law_words : FuncData
  F__law_words : Fun K "_law_words" "_law_words" s__law_words a__law_words fd__law_words
  b__law_words : Binds K fd__law_words ["ties", "coins", "secrets"] []
  g__law_words : mg "_law_words" = some (.ref a__law_words)
  a__law_said_fits : Addr
  fd__law_said_fits : FuncData
  F__law_said_fits : Fun K "_law_said_fits" "_law_said_fits" s__law_said_fits a__law_said_fits fd__law_said_fits
  b__law_said_fits : Binds K fd__law_said_fits ["pool", "n", "ties", "coins", "secrets"] []
  g__law_said_fits : mg "_law_said_fits" = some (.ref a__law_said_fits)
  a__law_bad_number : Addr
  fd__law_bad_number : FuncData
  F__law_bad_number : Fun K "_law_bad_number" "_law_bad_number" s__law_bad_number a__law_bad_number fd__law_bad_number
  b__law_bad_number : Binds K fd__law_bad_number ["pool"] []
  g__law_bad_number : mg "_law_bad_number" = some (.ref a__law_bad_number)
  a__law_bad_pair : Addr
  fd__law_bad_pair : FuncData
  F__law_bad_pair : Fun K "_law_bad_pair" "_law_bad_pair" s__law_bad_pair a__law_bad_pair fd__law_bad_pair
  b__law_bad_pair : Binds K fd__law_bad_pair ["pool", "n", "one", "other"] []
  g__law_bad_pair : mg "_law_bad_pair" = some (.ref a__law_bad_pair)
  a__law_bad_ties : Addr
  fd__law_bad_ties : FuncData
  F__law_bad_ties : Fun K "_law_bad_ties" "_law_bad_ties" s__law_bad_ties a__law_bad_ties fd__law_bad_ties
  b__law_bad_ties : Binds K fd__law_bad_ties ["pool", "n", "ties"] []
  g__law_bad_ties : mg "_law_bad_ties" = some (.ref a__law_bad_ties)
  a__law_bad_bits : Addr
  fd__law_bad_bits : FuncData
  F__law_bad_bits : Fun K "_law_bad_bits" "_law_bad_bits" s__law_bad_bits a__law_bad_bits fd__law_bad_bits
  b__law_bad_bits : Binds K fd__law_bad_bits ["pool", "bits"] []
  g__law_bad_bits : mg "_law_bad_bits" = some (.ref a__law_bad_bits)
  a__law_refusal : Addr
  fd__law_refusal : FuncData
  F__law_refusal : Fun K "_law_refusal" "_law_refusal" s__law_refusal a__law_refusal fd__law_refusal
  b__law_refusal : Binds K fd__law_refusal ["which", "n", "ties", "coins", "secrets"] []
  g__law_refusal : mg "_law_refusal" = some (.ref a__law_refusal)
  a__law_refused : Addr
  fd__law_refused : FuncData
  F__law_refused : Fun K "_law_refused" "_law_refused" s__law_refused a__law_refused fd__law_refused
  b__law_refused : Binds K fd__law_refused ["n", "ties", "coins", "secrets", "due"] []
  g__law_refused : mg "_law_refused" = some (.ref a__law_refused)
  a_law : Addr
  fd_law : FuncData
  F_law : Fun K "law" "law" s_law a_law fd_law
  b_law : Binds K fd_law ["script"] []
  g_law : mg "law" = some (.ref a_law)
  e_JointError : Addr
  c_JointError : mg "JointError" = some (.ref e_JointError)
  e_BadGroup : Addr
  c_BadGroup : mg "BadGroup" = some (.ref e_BadGroup)
  e_BadTable : Addr
  c_BadTable : mg "BadTable" = some (.ref e_BadTable)
  e_BadText : Addr
  c_BadText : mg "BadText" = some (.ref e_BadText)
  e_BadNumber : Addr
  c_BadNumber : mg "BadNumber" = some (.ref e_BadNumber)
  e_BadWorlds : Addr
  c_BadWorlds : mg "BadWorlds" = some (.ref e_BadWorlds)
  e_BadSteps : Addr
  c_BadSteps : mg "BadSteps" = some (.ref e_BadSteps)
  e_BadCalls : Addr
  c_BadCalls : mg "BadCalls" = some (.ref e_BadCalls)
  e_BadDeals : Addr
  c_BadDeals : mg "BadDeals" = some (.ref e_BadDeals)
  e_NotThere : Addr
  c_NotThere : mg "NotThere" = some (.ref e_NotThere)
  e_TooLarge : Addr
  c_TooLarge : mg "TooLarge" = some (.ref e_TooLarge)
  e_NothingDone : Addr
  c_NothingDone : mg "NothingDone" = some (.ref e_NothingDone)
  e_BadRow : Addr
  c_BadRow : mg "BadRow" = some (.ref e_BadRow)
  e_BadLine : Addr
  c_BadLine : mg "BadLine" = some (.ref e_BadLine)
  i_BadRow : ICls P K mg "BadRow" (initOf (top 13))
  xs_JointError : PySem.W.subIn K (.ref e_JointError) (.type "BaseException") = some true
  xt_JointError : PySem.W.typeIn K (.ref e_JointError) = some (.type "type")
  hd_JointError : PySem.W.hasDictIn K e_JointError = true
  ss_JointError : PySem.W.subIn K (.ref e_JointError) (.ref e_JointError) = some true
  xs_BadGroup : PySem.W.subIn K (.ref e_BadGroup) (.type "BaseException") = some true
  xt_BadGroup : PySem.W.typeIn K (.ref e_BadGroup) = some (.type "type")
  hd_BadGroup : PySem.W.hasDictIn K e_BadGroup = true
  ss_BadGroup : PySem.W.subIn K (.ref e_BadGroup) (.ref e_BadGroup) = some true
  xs_BadTable : PySem.W.subIn K (.ref e_BadTable) (.type "BaseException") = some true
  xt_BadTable : PySem.W.typeIn K (.ref e_BadTable) = some (.type "type")
  hd_BadTable : PySem.W.hasDictIn K e_BadTable = true
  ss_BadTable : PySem.W.subIn K (.ref e_BadTable) (.ref e_BadTable) = some true
  xs_BadText : PySem.W.subIn K (.ref e_BadText) (.type "BaseException") = some true
  xt_BadText : PySem.W.typeIn K (.ref e_BadText) = some (.type "type")
  hd_BadText : PySem.W.hasDictIn K e_BadText = true
  ss_BadText : PySem.W.subIn K (.ref e_BadText) (.ref e_BadText) = some true
  xs_BadNumber : PySem.W.subIn K (.ref e_BadNumber) (.type "BaseException") = some true
  xt_BadNumber : PySem.W.typeIn K (.ref e_BadNumber) = some (.type "type")
  hd_BadNumber : PySem.W.hasDictIn K e_BadNumber = true
  ss_BadNumber : PySem.W.subIn K (.ref e_BadNumber) (.ref e_BadNumber) = some true
  xq_BadNumber : PySem.W.excIn K e_BadNumber [.type "ValueError", .type "Exception", .type "BaseException", .type "object"] "ValueError.__new__" = true
  xk_BadNumber : PySem.W.keepIn K (.ref e_BadNumber) = true
  hg_BadNumber : PySem.W.findIn K (.ref e_BadNumber) "__getattribute__" = some (some (.builtin "BaseException.__getattribute__"))
  hk_BadNumber : PySem.W.findIn K (.ref e_BadNumber) "__getattr__" = some none
  ha_BadNumber : PySem.W.findIn K (.ref e_BadNumber) "__class__" = some (some (.builtin "object.__class__"))
  hm_BadNumber : PySem.W.mroIn K e_BadNumber (.type "object") = some true
  s_BadNumber_JointError : PySem.W.subIn K (.ref e_BadNumber) (.ref e_JointError) = some true
  s_BadNumber_BadRow : PySem.W.subIn K (.ref e_BadNumber) (.ref e_BadRow) = some false
  s_BadNumber_BadCalls : PySem.W.subIn K (.ref e_BadNumber) (.ref e_BadCalls) = some false
  s_BadNumber_BadGroup : PySem.W.subIn K (.ref e_BadNumber) (.ref e_BadGroup) = some false
  s_BadNumber_BadDeals : PySem.W.subIn K (.ref e_BadNumber) (.ref e_BadDeals) = some false
  s_BadNumber_BadLine : PySem.W.subIn K (.ref e_BadNumber) (.ref e_BadLine) = some false
  s_BadNumber_BadSteps : PySem.W.subIn K (.ref e_BadNumber) (.ref e_BadSteps) = some false
  s_BadNumber_BadTable : PySem.W.subIn K (.ref e_BadNumber) (.ref e_BadTable) = some false
  s_BadNumber_BadText : PySem.W.subIn K (.ref e_BadNumber) (.ref e_BadText) = some false
  s_BadNumber_BadWorlds : PySem.W.subIn K (.ref e_BadNumber) (.ref e_BadWorlds) = some false
  s_BadNumber_NothingDone : PySem.W.subIn K (.ref e_BadNumber) (.ref e_NothingDone) = some false
  s_BadNumber_NotThere : PySem.W.subIn K (.ref e_BadNumber) (.ref e_NotThere) = some false
  s_BadNumber_TooLarge : PySem.W.subIn K (.ref e_BadNumber) (.ref e_TooLarge) = some false
  s_BadNumber_ValueError : PySem.W.subIn K (.ref e_BadNumber) (.type "ValueError") = some true
  xs_BadWorlds : PySem.W.subIn K (.ref e_BadWorlds) (.type "BaseException") = some true
  xt_BadWorlds : PySem.W.typeIn K (.ref e_BadWorlds) = some (.type "type")
  hd_BadWorlds : PySem.W.hasDictIn K e_BadWorlds = true
  ss_BadWorlds : PySem.W.subIn K (.ref e_BadWorlds) (.ref e_BadWorlds) = some true
  xs_BadSteps : PySem.W.subIn K (.ref e_BadSteps) (.type "BaseException") = some true
  xt_BadSteps : PySem.W.typeIn K (.ref e_BadSteps) = some (.type "type")
  hd_BadSteps : PySem.W.hasDictIn K e_BadSteps = true
  ss_BadSteps : PySem.W.subIn K (.ref e_BadSteps) (.ref e_BadSteps) = some true
  xs_BadCalls : PySem.W.subIn K (.ref e_BadCalls) (.type "BaseException") = some true
  xt_BadCalls : PySem.W.typeIn K (.ref e_BadCalls) = some (.type "type")
  hd_BadCalls : PySem.W.hasDictIn K e_BadCalls = true
  ss_BadCalls : PySem.W.subIn K (.ref e_BadCalls) (.ref e_BadCalls) = some true
  xq_BadCalls : PySem.W.excIn K e_BadCalls [.type "ValueError", .type "Exception", .type "BaseException", .type "object"] "ValueError.__new__" = true
  xk_BadCalls : PySem.W.keepIn K (.ref e_BadCalls) = true
  hg_BadCalls : PySem.W.findIn K (.ref e_BadCalls) "__getattribute__" = some (some (.builtin "BaseException.__getattribute__"))
  hk_BadCalls : PySem.W.findIn K (.ref e_BadCalls) "__getattr__" = some none
  ha_BadCalls : PySem.W.findIn K (.ref e_BadCalls) "__class__" = some (some (.builtin "object.__class__"))
  hm_BadCalls : PySem.W.mroIn K e_BadCalls (.type "object") = some true
  s_BadCalls_JointError : PySem.W.subIn K (.ref e_BadCalls) (.ref e_JointError) = some true
  s_BadCalls_BadRow : PySem.W.subIn K (.ref e_BadCalls) (.ref e_BadRow) = some false
  s_BadCalls_BadNumber : PySem.W.subIn K (.ref e_BadCalls) (.ref e_BadNumber) = some false
  s_BadCalls_BadGroup : PySem.W.subIn K (.ref e_BadCalls) (.ref e_BadGroup) = some false
  s_BadCalls_BadDeals : PySem.W.subIn K (.ref e_BadCalls) (.ref e_BadDeals) = some false
  s_BadCalls_BadLine : PySem.W.subIn K (.ref e_BadCalls) (.ref e_BadLine) = some false
  s_BadCalls_BadSteps : PySem.W.subIn K (.ref e_BadCalls) (.ref e_BadSteps) = some false
  s_BadCalls_BadTable : PySem.W.subIn K (.ref e_BadCalls) (.ref e_BadTable) = some false
  s_BadCalls_BadText : PySem.W.subIn K (.ref e_BadCalls) (.ref e_BadText) = some false
  s_BadCalls_BadWorlds : PySem.W.subIn K (.ref e_BadCalls) (.ref e_BadWorlds) = some false
  s_BadCalls_NothingDone : PySem.W.subIn K (.ref e_BadCalls) (.ref e_NothingDone) = some false
  s_BadCalls_NotThere : PySem.W.subIn K (.ref e_BadCalls) (.ref e_NotThere) = some false
  s_BadCalls_TooLarge : PySem.W.subIn K (.ref e_BadCalls) (.ref e_TooLarge) = some false
  s_BadCalls_ValueError : PySem.W.subIn K (.ref e_BadCalls) (.type "ValueError") = some true
  xs_BadDeals : PySem.W.subIn K (.ref e_BadDeals) (.type "BaseException") = some true
  xt_BadDeals : PySem.W.typeIn K (.ref e_BadDeals) = some (.type "type")
  hd_BadDeals : PySem.W.hasDictIn K e_BadDeals = true
  ss_BadDeals : PySem.W.subIn K (.ref e_BadDeals) (.ref e_BadDeals) = some true
  xs_NotThere : PySem.W.subIn K (.ref e_NotThere) (.type "BaseException") = some true
  xt_NotThere : PySem.W.typeIn K (.ref e_NotThere) = some (.type "type")
  hd_NotThere : PySem.W.hasDictIn K e_NotThere = true
  ss_NotThere : PySem.W.subIn K (.ref e_NotThere) (.ref e_NotThere) = some true
  xs_TooLarge : PySem.W.subIn K (.ref e_TooLarge) (.type "BaseException") = some true
  xt_TooLarge : PySem.W.typeIn K (.ref e_TooLarge) = some (.type "type")
  hd_TooLarge : PySem.W.hasDictIn K e_TooLarge = true
  ss_TooLarge : PySem.W.subIn K (.ref e_TooLarge) (.ref e_TooLarge) = some true
  xs_NothingDone : PySem.W.subIn K (.ref e_NothingDone) (.type "BaseException") = some true
  xt_NothingDone : PySem.W.typeIn K (.ref e_NothingDone) = some (.type "type")
  hd_NothingDone : PySem.W.hasDictIn K e_NothingDone = true
  ss_NothingDone : PySem.W.subIn K (.ref e_NothingDone) (.ref e_NothingDone) = some true
  xs_BadRow : PySem.W.subIn K (.ref e_BadRow) (.type "BaseException") = some true
  xt_BadRow : PySem.W.typeIn K (.ref e_BadRow) = some (.type "type")
  hd_BadRow : PySem.W.hasDictIn K e_BadRow = true
  ss_BadRow : PySem.W.subIn K (.ref e_BadRow) (.ref e_BadRow) = some true
  nf_BadRow : PySem.W.findIn K (.ref e_BadRow) "place" = some none
  hg_BadRow : PySem.W.findIn K (.ref e_BadRow) "__getattribute__" = some (some (.builtin "BaseException.__getattribute__"))
  hk_BadRow : PySem.W.findIn K (.ref e_BadRow) "__getattr__" = some none
  ha_BadRow : PySem.W.findIn K (.ref e_BadRow) "__class__" = some (some (.builtin "object.__class__"))
  hm_BadRow : PySem.W.mroIn K e_BadRow (.type "object") = some true
  s_BadRow_JointError : PySem.W.subIn K (.ref e_BadRow) (.ref e_JointError) = some true
  s_BadRow_BadNumber : PySem.W.subIn K (.ref e_BadRow) (.ref e_BadNumber) = some false
  s_BadRow_BadCalls : PySem.W.subIn K (.ref e_BadRow) (.ref e_BadCalls) = some false
  s_BadRow_BadGroup : PySem.W.subIn K (.ref e_BadRow) (.ref e_BadGroup) = some false
  s_BadRow_BadDeals : PySem.W.subIn K (.ref e_BadRow) (.ref e_BadDeals) = some false
  s_BadRow_BadLine : PySem.W.subIn K (.ref e_BadRow) (.ref e_BadLine) = some false
  s_BadRow_BadSteps : PySem.W.subIn K (.ref e_BadRow) (.ref e_BadSteps) = some false
  s_BadRow_BadTable : PySem.W.subIn K (.ref e_BadRow) (.ref e_BadTable) = some false
  s_BadRow_BadText : PySem.W.subIn K (.ref e_BadRow) (.ref e_BadText) = some false
  s_BadRow_BadWorlds : PySem.W.subIn K (.ref e_BadRow) (.ref e_BadWorlds) = some false
  s_BadRow_NothingDone : PySem.W.subIn K (.ref e_BadRow) (.ref e_NothingDone) = some false
  s_BadRow_NotThere : PySem.W.subIn K (.ref e_BadRow) (.ref e_NotThere) = some false
  s_BadRow_TooLarge : PySem.W.subIn K (.ref e_BadRow) (.ref e_TooLarge) = some false
  s_BadRow_ValueError : PySem.W.subIn K (.ref e_BadRow) (.type "ValueError") = some true
  xs_BadLine : PySem.W.subIn K (.ref e_BadLine) (.type "BaseException") = some true
  xt_BadLine : PySem.W.typeIn K (.ref e_BadLine) = some (.type "type")
  hd_BadLine : PySem.W.hasDictIn K e_BadLine = true
  ss_BadLine : PySem.W.subIn K (.ref e_BadLine) (.ref e_BadLine) = some true
  hn_ : PySem.W.specialIn K (.builtin "object.__class__") "__get__" = some (some (.builtin "getset_descriptor.__get__"))
  ht_ : PySem.W.takesIn K (.builtin "object.__class__") = some true
  n_ValueError : mg "ValueError" = none
  n_all : mg "all" = none
  n_bool : mg "bool" = none
  n_enumerate : mg "enumerate" = none
  n_int : mg "int" = none
  n_isinstance : mg "isinstance" = none
  n_len : mg "len" = none
  n_list : mg "list" = none
  n_range : mg "range" = none
  n_str : mg "str" = none
  n_sum : mg "sum" = none
  n_tuple : mg "tuple" = none
  n_zip : mg "zip" = none
  u_MOST_PEOPLE : Tok
  c_MOST_PEOPLE : mg "MOST_PEOPLE" = some (.int 6 u_MOST_PEOPLE)
theorem Txt.k_BadNumber_JointError {P : Program} {K : PySem.W.Frag} {mg : Str → Option Value} (T : Txt P K mg) : PySem.W.kitOne K (.ref T.e_BadNumber) (.ref T.e_JointError) = some true := kit_ref T.hd_JointError T.xt_JointError T.s_BadNumber_JointError T.ss_JointError
theorem Txt.m_BadNumber_JointError {P : Program} {K : PySem.W.Frag} {mg : Str → Option Value} (T : Txt P K mg) : PySem.W.exmOne K (.ref T.e_BadNumber) (.ref T.e_JointError) = some true := PySem.W.exm_ref T.xs_JointError T.hd_JointError T.xt_JointError T.s_BadNumber_JointError
theorem Txt.k_BadNumber_BadRow {P : Program} {K : PySem.W.Frag} {mg : Str → Option Value} (T : Txt P K mg) : PySem.W.kitOne K (.ref T.e_BadNumber) (.ref T.e_BadRow) = some false := kit_ref T.hd_BadRow T.xt_BadRow T.s_BadNumber_BadRow T.ss_BadRow
theorem Txt.k_BadNumber_BadNumber {P : Program} {K : PySem.W.Frag} {mg : Str → Option Value} (T : Txt P K mg) : PySem.W.kitOne K (.ref T.e_BadNumber) (.ref T.e_BadNumber) = some true := kit_ref T.hd_BadNumber T.xt_BadNumber T.ss_BadNumber T.ss_BadNumber
theorem Txt.k_BadNumber_BadCalls {P : Program} {K : PySem.W.Frag} {mg : Str → Option Value} (T : Txt P K mg) : PySem.W.kitOne K (.ref T.e_BadNumber) (.ref T.e_BadCalls) = some false := kit_ref T.hd_BadCalls T.xt_BadCalls T.s_BadNumber_BadCalls T.ss_BadCalls
theorem Txt.k_BadNumber_BadGroup {P : Program} {K : PySem.W.Frag} {mg : Str → Option Value} (T : Txt P K mg) : PySem.W.kitOne K (.ref T.e_BadNumber) (.ref T.e_BadGroup) = some false := kit_ref T.hd_BadGroup T.xt_BadGroup T.s_BadNumber_BadGroup T.ss_BadGroup
theorem Txt.k_BadNumber_BadDeals {P : Program} {K : PySem.W.Frag} {mg : Str → Option Value} (T : Txt P K mg) : PySem.W.kitOne K (.ref T.e_BadNumber) (.ref T.e_BadDeals) = some false := kit_ref T.hd_BadDeals T.xt_BadDeals T.s_BadNumber_BadDeals T.ss_BadDeals
theorem Txt.k_BadNumber_BadLine {P : Program} {K : PySem.W.Frag} {mg : Str → Option Value} (T : Txt P K mg) : PySem.W.kitOne K (.ref T.e_BadNumber) (.ref T.e_BadLine) = some false := kit_ref T.hd_BadLine T.xt_BadLine T.s_BadNumber_BadLine T.ss_BadLine
theorem Txt.k_BadNumber_BadSteps {P : Program} {K : PySem.W.Frag} {mg : Str → Option Value} (T : Txt P K mg) : PySem.W.kitOne K (.ref T.e_BadNumber) (.ref T.e_BadSteps) = some false := kit_ref T.hd_BadSteps T.xt_BadSteps T.s_BadNumber_BadSteps T.ss_BadSteps
theorem Txt.k_BadNumber_BadTable {P : Program} {K : PySem.W.Frag} {mg : Str → Option Value} (T : Txt P K mg) : PySem.W.kitOne K (.ref T.e_BadNumber) (.ref T.e_BadTable) = some false := kit_ref T.hd_BadTable T.xt_BadTable T.s_BadNumber_BadTable T.ss_BadTable
theorem Txt.k_BadNumber_BadText {P : Program} {K : PySem.W.Frag} {mg : Str → Option Value} (T : Txt P K mg) : PySem.W.kitOne K (.ref T.e_BadNumber) (.ref T.e_BadText) = some false := kit_ref T.hd_BadText T.xt_BadText T.s_BadNumber_BadText T.ss_BadText
theorem Txt.k_BadNumber_BadWorlds {P : Program} {K : PySem.W.Frag} {mg : Str → Option Value} (T : Txt P K mg) : PySem.W.kitOne K (.ref T.e_BadNumber) (.ref T.e_BadWorlds) = some false := kit_ref T.hd_BadWorlds T.xt_BadWorlds T.s_BadNumber_BadWorlds T.ss_BadWorlds
theorem Txt.k_BadNumber_NothingDone {P : Program} {K : PySem.W.Frag} {mg : Str → Option Value} (T : Txt P K mg) : PySem.W.kitOne K (.ref T.e_BadNumber) (.ref T.e_NothingDone) = some false := kit_ref T.hd_NothingDone T.xt_NothingDone T.s_BadNumber_NothingDone T.ss_NothingDone
theorem Txt.k_BadNumber_NotThere {P : Program} {K : PySem.W.Frag} {mg : Str → Option Value} (T : Txt P K mg) : PySem.W.kitOne K (.ref T.e_BadNumber) (.ref T.e_NotThere) = some false := kit_ref T.hd_NotThere T.xt_NotThere T.s_BadNumber_NotThere T.ss_NotThere
theorem Txt.k_BadNumber_TooLarge {P : Program} {K : PySem.W.Frag} {mg : Str → Option Value} (T : Txt P K mg) : PySem.W.kitOne K (.ref T.e_BadNumber) (.ref T.e_TooLarge) = some false := kit_ref T.hd_TooLarge T.xt_TooLarge T.s_BadNumber_TooLarge T.ss_TooLarge
theorem Txt.k_BadNumber_ValueError {P : Program} {K : PySem.W.Frag} {mg : Str → Option Value} (T : Txt P K mg) : PySem.W.kitOne K (.ref T.e_BadNumber) (.type "ValueError") = some true := kit_ty (by decide +kernel) T.s_BadNumber_ValueError
theorem Txt.k_BadCalls_JointError {P : Program} {K : PySem.W.Frag} {mg : Str → Option Value} (T : Txt P K mg) : PySem.W.kitOne K (.ref T.e_BadCalls) (.ref T.e_JointError) = some true := kit_ref T.hd_JointError T.xt_JointError T.s_BadCalls_JointError T.ss_JointError
theorem Txt.m_BadCalls_JointError {P : Program} {K : PySem.W.Frag} {mg : Str → Option Value} (T : Txt P K mg) : PySem.W.exmOne K (.ref T.e_BadCalls) (.ref T.e_JointError) = some true := PySem.W.exm_ref T.xs_JointError T.hd_JointError T.xt_JointError T.s_BadCalls_JointError
theorem Txt.k_BadCalls_BadRow {P : Program} {K : PySem.W.Frag} {mg : Str → Option Value} (T : Txt P K mg) : PySem.W.kitOne K (.ref T.e_BadCalls) (.ref T.e_BadRow) = some false := kit_ref T.hd_BadRow T.xt_BadRow T.s_BadCalls_BadRow T.ss_BadRow
theorem Txt.k_BadCalls_BadNumber {P : Program} {K : PySem.W.Frag} {mg : Str → Option Value} (T : Txt P K mg) : PySem.W.kitOne K (.ref T.e_BadCalls) (.ref T.e_BadNumber) = some false := kit_ref T.hd_BadNumber T.xt_BadNumber T.s_BadCalls_BadNumber T.ss_BadNumber
theorem Txt.k_BadCalls_BadCalls {P : Program} {K : PySem.W.Frag} {mg : Str → Option Value} (T : Txt P K mg) : PySem.W.kitOne K (.ref T.e_BadCalls) (.ref T.e_BadCalls) = some true := kit_ref T.hd_BadCalls T.xt_BadCalls T.ss_BadCalls T.ss_BadCalls
theorem Txt.k_BadCalls_BadGroup {P : Program} {K : PySem.W.Frag} {mg : Str → Option Value} (T : Txt P K mg) : PySem.W.kitOne K (.ref T.e_BadCalls) (.ref T.e_BadGroup) = some false := kit_ref T.hd_BadGroup T.xt_BadGroup T.s_BadCalls_BadGroup T.ss_BadGroup
theorem Txt.k_BadCalls_BadDeals {P : Program} {K : PySem.W.Frag} {mg : Str → Option Value} (T : Txt P K mg) : PySem.W.kitOne K (.ref T.e_BadCalls) (.ref T.e_BadDeals) = some false := kit_ref T.hd_BadDeals T.xt_BadDeals T.s_BadCalls_BadDeals T.ss_BadDeals
theorem Txt.k_BadCalls_BadLine {P : Program} {K : PySem.W.Frag} {mg : Str → Option Value} (T : Txt P K mg) : PySem.W.kitOne K (.ref T.e_BadCalls) (.ref T.e_BadLine) = some false := kit_ref T.hd_BadLine T.xt_BadLine T.s_BadCalls_BadLine T.ss_BadLine
theorem Txt.k_BadCalls_BadSteps {P : Program} {K : PySem.W.Frag} {mg : Str → Option Value} (T : Txt P K mg) : PySem.W.kitOne K (.ref T.e_BadCalls) (.ref T.e_BadSteps) = some false := kit_ref T.hd_BadSteps T.xt_BadSteps T.s_BadCalls_BadSteps T.ss_BadSteps
theorem Txt.k_BadCalls_BadTable {P : Program} {K : PySem.W.Frag} {mg : Str → Option Value} (T : Txt P K mg) : PySem.W.kitOne K (.ref T.e_BadCalls) (.ref T.e_BadTable) = some false := kit_ref T.hd_BadTable T.xt_BadTable T.s_BadCalls_BadTable T.ss_BadTable
theorem Txt.k_BadCalls_BadText {P : Program} {K : PySem.W.Frag} {mg : Str → Option Value} (T : Txt P K mg) : PySem.W.kitOne K (.ref T.e_BadCalls) (.ref T.e_BadText) = some false := kit_ref T.hd_BadText T.xt_BadText T.s_BadCalls_BadText T.ss_BadText
theorem Txt.k_BadCalls_BadWorlds {P : Program} {K : PySem.W.Frag} {mg : Str → Option Value} (T : Txt P K mg) : PySem.W.kitOne K (.ref T.e_BadCalls) (.ref T.e_BadWorlds) = some false := kit_ref T.hd_BadWorlds T.xt_BadWorlds T.s_BadCalls_BadWorlds T.ss_BadWorlds
theorem Txt.k_BadCalls_NothingDone {P : Program} {K : PySem.W.Frag} {mg : Str → Option Value} (T : Txt P K mg) : PySem.W.kitOne K (.ref T.e_BadCalls) (.ref T.e_NothingDone) = some false := kit_ref T.hd_NothingDone T.xt_NothingDone T.s_BadCalls_NothingDone T.ss_NothingDone
theorem Txt.k_BadCalls_NotThere {P : Program} {K : PySem.W.Frag} {mg : Str → Option Value} (T : Txt P K mg) : PySem.W.kitOne K (.ref T.e_BadCalls) (.ref T.e_NotThere) = some false := kit_ref T.hd_NotThere T.xt_NotThere T.s_BadCalls_NotThere T.ss_NotThere
theorem Txt.k_BadCalls_TooLarge {P : Program} {K : PySem.W.Frag} {mg : Str → Option Value} (T : Txt P K mg) : PySem.W.kitOne K (.ref T.e_BadCalls) (.ref T.e_TooLarge) = some false := kit_ref T.hd_TooLarge T.xt_TooLarge T.s_BadCalls_TooLarge T.ss_TooLarge
theorem Txt.k_BadCalls_ValueError {P : Program} {K : PySem.W.Frag} {mg : Str → Option Value} (T : Txt P K mg) : PySem.W.kitOne K (.ref T.e_BadCalls) (.type "ValueError") = some true := kit_ty (by decide +kernel) T.s_BadCalls_ValueError
theorem Txt.k_BadRow_JointError {P : Program} {K : PySem.W.Frag} {mg : Str → Option Value} (T : Txt P K mg) : PySem.W.kitOne K (.ref T.e_BadRow) (.ref T.e_JointError) = some true := kit_ref T.hd_JointError T.xt_JointError T.s_BadRow_JointError T.ss_JointError
theorem Txt.m_BadRow_JointError {P : Program} {K : PySem.W.Frag} {mg : Str → Option Value} (T : Txt P K mg) : PySem.W.exmOne K (.ref T.e_BadRow) (.ref T.e_JointError) = some true := PySem.W.exm_ref T.xs_JointError T.hd_JointError T.xt_JointError T.s_BadRow_JointError
theorem Txt.k_BadRow_BadRow {P : Program} {K : PySem.W.Frag} {mg : Str → Option Value} (T : Txt P K mg) : PySem.W.kitOne K (.ref T.e_BadRow) (.ref T.e_BadRow) = some true := kit_ref T.hd_BadRow T.xt_BadRow T.ss_BadRow T.ss_BadRow
theorem Txt.k_BadRow_BadNumber {P : Program} {K : PySem.W.Frag} {mg : Str → Option Value} (T : Txt P K mg) : PySem.W.kitOne K (.ref T.e_BadRow) (.ref T.e_BadNumber) = some false := kit_ref T.hd_BadNumber T.xt_BadNumber T.s_BadRow_BadNumber T.ss_BadNumber
theorem Txt.k_BadRow_BadCalls {P : Program} {K : PySem.W.Frag} {mg : Str → Option Value} (T : Txt P K mg) : PySem.W.kitOne K (.ref T.e_BadRow) (.ref T.e_BadCalls) = some false := kit_ref T.hd_BadCalls T.xt_BadCalls T.s_BadRow_BadCalls T.ss_BadCalls
theorem Txt.k_BadRow_BadGroup {P : Program} {K : PySem.W.Frag} {mg : Str → Option Value} (T : Txt P K mg) : PySem.W.kitOne K (.ref T.e_BadRow) (.ref T.e_BadGroup) = some false := kit_ref T.hd_BadGroup T.xt_BadGroup T.s_BadRow_BadGroup T.ss_BadGroup
theorem Txt.k_BadRow_BadDeals {P : Program} {K : PySem.W.Frag} {mg : Str → Option Value} (T : Txt P K mg) : PySem.W.kitOne K (.ref T.e_BadRow) (.ref T.e_BadDeals) = some false := kit_ref T.hd_BadDeals T.xt_BadDeals T.s_BadRow_BadDeals T.ss_BadDeals
theorem Txt.k_BadRow_BadLine {P : Program} {K : PySem.W.Frag} {mg : Str → Option Value} (T : Txt P K mg) : PySem.W.kitOne K (.ref T.e_BadRow) (.ref T.e_BadLine) = some false := kit_ref T.hd_BadLine T.xt_BadLine T.s_BadRow_BadLine T.ss_BadLine
theorem Txt.k_BadRow_BadSteps {P : Program} {K : PySem.W.Frag} {mg : Str → Option Value} (T : Txt P K mg) : PySem.W.kitOne K (.ref T.e_BadRow) (.ref T.e_BadSteps) = some false := kit_ref T.hd_BadSteps T.xt_BadSteps T.s_BadRow_BadSteps T.ss_BadSteps
theorem Txt.k_BadRow_BadTable {P : Program} {K : PySem.W.Frag} {mg : Str → Option Value} (T : Txt P K mg) : PySem.W.kitOne K (.ref T.e_BadRow) (.ref T.e_BadTable) = some false := kit_ref T.hd_BadTable T.xt_BadTable T.s_BadRow_BadTable T.ss_BadTable
theorem Txt.k_BadRow_BadText {P : Program} {K : PySem.W.Frag} {mg : Str → Option Value} (T : Txt P K mg) : PySem.W.kitOne K (.ref T.e_BadRow) (.ref T.e_BadText) = some false := kit_ref T.hd_BadText T.xt_BadText T.s_BadRow_BadText T.ss_BadText
theorem Txt.k_BadRow_BadWorlds {P : Program} {K : PySem.W.Frag} {mg : Str → Option Value} (T : Txt P K mg) : PySem.W.kitOne K (.ref T.e_BadRow) (.ref T.e_BadWorlds) = some false := kit_ref T.hd_BadWorlds T.xt_BadWorlds T.s_BadRow_BadWorlds T.ss_BadWorlds
theorem Txt.k_BadRow_NothingDone {P : Program} {K : PySem.W.Frag} {mg : Str → Option Value} (T : Txt P K mg) : PySem.W.kitOne K (.ref T.e_BadRow) (.ref T.e_NothingDone) = some false := kit_ref T.hd_NothingDone T.xt_NothingDone T.s_BadRow_NothingDone T.ss_NothingDone
theorem Txt.k_BadRow_NotThere {P : Program} {K : PySem.W.Frag} {mg : Str → Option Value} (T : Txt P K mg) : PySem.W.kitOne K (.ref T.e_BadRow) (.ref T.e_NotThere) = some false := kit_ref T.hd_NotThere T.xt_NotThere T.s_BadRow_NotThere T.ss_NotThere
theorem Txt.k_BadRow_TooLarge {P : Program} {K : PySem.W.Frag} {mg : Str → Option Value} (T : Txt P K mg) : PySem.W.kitOne K (.ref T.e_BadRow) (.ref T.e_TooLarge) = some false := kit_ref T.hd_TooLarge T.xt_TooLarge T.s_BadRow_TooLarge T.ss_TooLarge
theorem Txt.k_BadRow_ValueError {P : Program} {K : PySem.W.Frag} {mg : Str → Option Value} (T : Txt P K mg) : PySem.W.kitOne K (.ref T.e_BadRow) (.type "ValueError") = some true := kit_ty (by decide +kernel) T.s_BadRow_ValueError
def Txt.x_BadNumber {P : Program} {K : PySem.W.Frag} {mg : Str → Option Value} (T : Txt P K mg) : XCls K mg "BadNumber" := ⟨T.e_BadNumber, T.c_BadNumber, T.xq_BadNumber, T.xk_BadNumber, T.xs_BadNumber, T.xt_BadNumber⟩
theorem Txt.h_BadNumber {P : Program} {K : PySem.W.Frag} {mg : Str → Option Value} (T : Txt P K mg) : ExcC K T.e_BadNumber := ⟨T.hg_BadNumber, T.hk_BadNumber, T.xs_BadNumber, T.hd_BadNumber, T.ha_BadNumber, T.hn_, T.ht_, T.hm_BadNumber⟩
def Txt.x_BadCalls {P : Program} {K : PySem.W.Frag} {mg : Str → Option Value} (T : Txt P K mg) : XCls K mg "BadCalls" := ⟨T.e_BadCalls, T.c_BadCalls, T.xq_BadCalls, T.xk_BadCalls, T.xs_BadCalls, T.xt_BadCalls⟩
theorem Txt.h_BadCalls {P : Program} {K : PySem.W.Frag} {mg : Str → Option Value} (T : Txt P K mg) : ExcC K T.e_BadCalls := ⟨T.hg_BadCalls, T.hk_BadCalls, T.xs_BadCalls, T.hd_BadCalls, T.ha_BadCalls, T.hn_, T.ht_, T.hm_BadCalls⟩
theorem Txt.h_BadRow {P : Program} {K : PySem.W.Frag} {mg : Str → Option Value} (T : Txt P K mg) : ExcC K T.e_BadRow := ⟨T.hg_BadRow, T.hk_BadRow, T.xs_BadRow, T.hd_BadRow, T.ha_BadRow, T.hn_, T.ht_, T.hm_BadRow⟩
variable {P : Program} {w : World} {K : PySem.W.Frag} {mg : Str → Option Value} {base : Heap}
theorem form_BadRow : IniForm (initOf (top 13)) := ⟨⟨_, _, _, _, _, _, _, _, _, _, rfl, rfl⟩, ⟨_, rfl, rfl⟩, rfl, rfl, rfl, by decide +kernel, rfl, rfl, rfl, rfl⟩
theorem sc_is_integer : FnScope ["value"] ["value"] (defScope s_is_integer) := ⟨rfl, rfl, rfl, by decide +kernel, rfl, by decide +kernel, by decide +kernel⟩
def b_is_integer : M Z.Flow :=
  mret (mandV (mop1 (isiD .int) (.slot 0)) (mnotV (mop1 (isiD .bool) (.slot 0))))
def m_is_integer : Fn := runBody 1 b_is_integer
theorem ok_is_integer (T : Txt P K mg) : FnOk P w K mg base (L2N.CX P w) 1 T.a_is_integer T.fd_is_integer ["value"] (spM K mg 1 m_is_integer) :=
  fn_ok (k := 0) T.F_is_integer sc_is_integer (fun cdv A outer s H E hr => by
  have tk : L2N.Takes (cxOf (L2N.CX P w) P w K mg base ["value"] "is_integer" (defScope s_is_integer) T.a_is_integer cdv A outer s H E) (fun cls d _ H => E cls d H) := L2N.takes_of rfl rfl rfl rfl
  have hp : PassesOwn (model (cxOf (L2N.CX P w) P w K mg base ["value"] "is_integer" (defScope s_is_integer) T.a_is_integer cdv A outer s H E).prog (cxOf (L2N.CX P w) P w K mg base ["value"] "is_integer" (defScope s_is_integer) T.a_is_integer cdv A outer s H E).w) (cxOf (L2N.CX P w) P w K mg base ["value"] "is_integer" (defScope s_is_integer) T.a_is_integer cdv A outer s H E).A (cxOf (L2N.CX P w) P w K mg base ["value"] "is_integer" (defScope s_is_integer) T.a_is_integer cdv A outer s H E).env (cxOf (L2N.CX P w) P w K mg base ["value"] "is_integer" (defScope s_is_integer) T.a_is_integer cdv A outer s H E).xe := passes_of rfl
  have hu : (A.deeper (PyProof.Rows.envOfC "is_integer" (defScope s_is_integer) s.heap.objs.size T.a_is_integer cdv)).units + 64 < cLine := hr.units
  have hu5 : (A.deeper (PyProof.Rows.envOfC "is_integer" (defScope s_is_integer) s.heap.objs.size T.a_is_integer cdv)).units + 65 < cLine := by have := hr.un; omega
  have nd : (["value"] : List Str).Nodup := sc_is_integer.nd
  exact (sss_one (ss_ret (se_and (se_isi (by rfl) T.n_isinstance (so_slot (pv 0)) (pe_bltn (v := .ty (Ty.nm .int)) (by rfl) T.n_int (by decide +kernel) rfl)) (se_one (se_not (se_isi (by rfl) T.n_isinstance (so_slot (pv 0)) (pe_bltn (v := .ty (Ty.nm .bool)) (by rfl) T.n_bool (by decide +kernel) rfl))))))))
theorem sc_is_from_to : FnScope ["value", "least", "most"] ["value", "least", "most"] (defScope s_is_from_to) := ⟨rfl, rfl, rfl, by decide +kernel, rfl, by decide +kernel, by decide +kernel⟩
def b_is_from_to : M Z.Flow :=
  mret (mandV (mcall m_is_integer [.d (mval 0)]) (mchain leD leD (mval 1) (mval 0) (mval 2)))
def m_is_from_to : Fn := runBody 3 b_is_from_to
theorem ok_is_from_to (T : Txt P K mg) : FnOk P w K mg base (L2N.CX P w) 2 T.a_is_from_to T.fd_is_from_to ["value", "least", "most"] (spM K mg 3 m_is_from_to) :=
  fn_ok (k := 1) T.F_is_from_to sc_is_from_to (fun cdv A outer s H E hr => by
  have tk : L2N.Takes (cxOf (L2N.CX P w) P w K mg base ["value", "least", "most"] "is_from_to" (defScope s_is_from_to) T.a_is_from_to cdv A outer s H E) (fun cls d _ H => E cls d H) := L2N.takes_of rfl rfl rfl rfl
  have hp : PassesOwn (model (cxOf (L2N.CX P w) P w K mg base ["value", "least", "most"] "is_from_to" (defScope s_is_from_to) T.a_is_from_to cdv A outer s H E).prog (cxOf (L2N.CX P w) P w K mg base ["value", "least", "most"] "is_from_to" (defScope s_is_from_to) T.a_is_from_to cdv A outer s H E).w) (cxOf (L2N.CX P w) P w K mg base ["value", "least", "most"] "is_from_to" (defScope s_is_from_to) T.a_is_from_to cdv A outer s H E).A (cxOf (L2N.CX P w) P w K mg base ["value", "least", "most"] "is_from_to" (defScope s_is_from_to) T.a_is_from_to cdv A outer s H E).env (cxOf (L2N.CX P w) P w K mg base ["value", "least", "most"] "is_from_to" (defScope s_is_from_to) T.a_is_from_to cdv A outer s H E).xe := passes_of rfl
  have hu : (A.deeper (PyProof.Rows.envOfC "is_from_to" (defScope s_is_from_to) s.heap.objs.size T.a_is_from_to cdv)).units + 64 < cLine := hr.units
  have hu5 : (A.deeper (PyProof.Rows.envOfC "is_from_to" (defScope s_is_from_to) s.heap.objs.size T.a_is_from_to cdv)).units + 65 < cLine := by have := hr.un; omega
  have nd : (["value", "least", "most"] : List Str).Nodup := sc_is_from_to.nd
  exact (sss_one (ss_ret (se_and (se_call ((ok_is_integer T).mono (by decide)) hr (by rfl) T.g_is_integer T.F_is_integer.kp T.b_is_integer tk (sar_d (se_val (pv 0)) sar_nil)) (se_one (se_chain op_le sem_le op_le sem_le (se_val (pv 1)) (se_val (pv 0)) (se_val (pv 2)) (by with_unfolding_all rfl)))))))
theorem sc_check_number : FnScope ["value", "least", "most"] ["value", "least", "most"] (defScope s_check_number) := ⟨rfl, rfl, rfl, by decide +kernel, rfl, by decide +kernel, by decide +kernel⟩
def b_check_number : M Z.Flow :=
  mifS (mnot (mtru (.val (mcall m_is_from_to [.d (mval 0), .d (mval 1), .d (mval 2)])))) (mraise "BadNumber") (mnx)
def m_check_number : Fn := runBody 3 b_check_number
theorem ok_check_number (T : Txt P K mg) : FnOk P w K mg base (L2N.CX P w) 3 T.a_check_number T.fd_check_number ["value", "least", "most"] (spM K mg 3 m_check_number) :=
  fn_ok (k := 2) T.F_check_number sc_check_number (fun cdv A outer s H E hr => by
  have tk : L2N.Takes (cxOf (L2N.CX P w) P w K mg base ["value", "least", "most"] "check_number" (defScope s_check_number) T.a_check_number cdv A outer s H E) (fun cls d _ H => E cls d H) := L2N.takes_of rfl rfl rfl rfl
  have hp : PassesOwn (model (cxOf (L2N.CX P w) P w K mg base ["value", "least", "most"] "check_number" (defScope s_check_number) T.a_check_number cdv A outer s H E).prog (cxOf (L2N.CX P w) P w K mg base ["value", "least", "most"] "check_number" (defScope s_check_number) T.a_check_number cdv A outer s H E).w) (cxOf (L2N.CX P w) P w K mg base ["value", "least", "most"] "check_number" (defScope s_check_number) T.a_check_number cdv A outer s H E).A (cxOf (L2N.CX P w) P w K mg base ["value", "least", "most"] "check_number" (defScope s_check_number) T.a_check_number cdv A outer s H E).env (cxOf (L2N.CX P w) P w K mg base ["value", "least", "most"] "check_number" (defScope s_check_number) T.a_check_number cdv A outer s H E).xe := passes_of rfl
  have hu : (A.deeper (PyProof.Rows.envOfC "check_number" (defScope s_check_number) s.heap.objs.size T.a_check_number cdv)).units + 64 < cLine := hr.units
  have hu5 : (A.deeper (PyProof.Rows.envOfC "check_number" (defScope s_check_number) s.heap.objs.size T.a_check_number cdv)).units + 65 < cLine := by have := hr.un; omega
  have nd : (["value", "least", "most"] : List Str).Nodup := sc_check_number.nd
  exact (sss_one (ss_if (st_not (st_tru (SE.so (se_call ((ok_is_from_to T).mono (by decide)) hr (by rfl) T.g_is_from_to T.F_is_from_to.kp T.b_is_from_to tk (sar_d (se_val (pv 0)) (sar_d (se_val (pv 1)) (sar_d (se_val (pv 2)) sar_nil))))) (by intro _; rfl))) (sss_one (ss_raise rfl tk (T.x_BadNumber) (by rfl))) sss_nil)))
theorem sc_check_numbers : FnScope ["value", "many", "most", "place", "number"] ["value", "many", "most"] (defScope s_check_numbers) := ⟨rfl, rfl, rfl, by decide +kernel, rfl, by decide +kernel, by decide +kernel⟩
def b_check_numbers : M Z.Flow :=
  mseq (mifS (mor (mnot (mtru (.val (mop1 (isi2D .list .tuple) (.slot 0))))) (mbool (mop2 neD (.val (mop1 lenD (.slot 0))) (.slot 1)))) (mraiseP "BadRow" (mpure (.int 0))) (mnx))
  (mforS (menum (mval 0)) (gtup 2 (gcons (gnm 3) (gcons (gnm 4) (gnil)))) (mifS (mnot (mtru (.val (mcall m_is_from_to [.d (mval 4), .d (mpure (.int 0)), .d (mval 2)])))) (mraiseP "BadRow" (mval 3)) (mnx)))
def m_check_numbers : Fn := runBody 5 b_check_numbers
theorem ok_check_numbers (T : Txt P K mg) : FnOk P w K mg base (L2N.CX P w) 3 T.a_check_numbers T.fd_check_numbers ["value", "many", "most"] (spM K mg 3 m_check_numbers) :=
  fn_ok (k := 2) T.F_check_numbers sc_check_numbers (fun cdv A outer s H E hr => by
  have tk : L2N.Takes (cxOf (L2N.CX P w) P w K mg base ["value", "many", "most", "place", "number"] "check_numbers" (defScope s_check_numbers) T.a_check_numbers cdv A outer s H E) (fun cls d _ H => E cls d H) := L2N.takes_of rfl rfl rfl rfl
  have hp : PassesOwn (model (cxOf (L2N.CX P w) P w K mg base ["value", "many", "most", "place", "number"] "check_numbers" (defScope s_check_numbers) T.a_check_numbers cdv A outer s H E).prog (cxOf (L2N.CX P w) P w K mg base ["value", "many", "most", "place", "number"] "check_numbers" (defScope s_check_numbers) T.a_check_numbers cdv A outer s H E).w) (cxOf (L2N.CX P w) P w K mg base ["value", "many", "most", "place", "number"] "check_numbers" (defScope s_check_numbers) T.a_check_numbers cdv A outer s H E).A (cxOf (L2N.CX P w) P w K mg base ["value", "many", "most", "place", "number"] "check_numbers" (defScope s_check_numbers) T.a_check_numbers cdv A outer s H E).env (cxOf (L2N.CX P w) P w K mg base ["value", "many", "most", "place", "number"] "check_numbers" (defScope s_check_numbers) T.a_check_numbers cdv A outer s H E).xe := passes_of rfl
  have hu : (A.deeper (PyProof.Rows.envOfC "check_numbers" (defScope s_check_numbers) s.heap.objs.size T.a_check_numbers cdv)).units + 64 < cLine := hr.units
  have hu5 : (A.deeper (PyProof.Rows.envOfC "check_numbers" (defScope s_check_numbers) s.heap.objs.size T.a_check_numbers cdv)).units + 65 < cLine := by have := hr.un; omega
  have nd : (["value", "many", "most", "place", "number"] : List Str).Nodup := sc_check_numbers.nd
  exact (sss_cons (ss_if (SW.st (sw_or (st_not (st_tru (SE.so (se_isi2 (by rfl) T.n_isinstance (so_slot (pv 0)) (pe_bltn (v := .ty (Ty.nm .list)) (by rfl) T.n_list (by decide +kernel) rfl) (pe_bltn (v := .ty (Ty.nm .tuple)) (by rfl) T.n_tuple (by decide +kernel) rfl))) (by intro _; rfl))) (sw_or1 (st_cmp (op_neA hu) sem_ne (SE.so (se_callB1 call_len sem_len (by rfl) T.n_len (by decide +kernel) (so_slot (pv 0)))) (so_slot (pv 1)) (nomark _))))) (sss_one (ss_raiseP rfl tk (T.i_BadRow) form_BadRow (hr.mono (by decide)) (by rfl) se_int)) sss_nil)
    (sss_one (ss_for1 (js := [3, 4]) hp rfl (si_enum (by rfl) T.n_enumerate (se_val (pv 0))) (sg_tup rfl (sg_cons (sg_name (i := 3) (by decide) (pg_name (i := 3) nd rfl (by first | exact Or.inl rfl | exact Or.inr rfl))) (sg_cons (sg_name (i := 4) (by decide) (pg_name (i := 4) nd rfl (by first | exact Or.inl rfl | exact Or.inr rfl))) sg_nil))) (sss_one (ss_if (st_not (st_tru (SE.so (se_call ((ok_is_from_to T).mono (by decide)) hr (by rfl) T.g_is_from_to T.F_is_from_to.kp T.b_is_from_to tk (sar_d (se_val (pv 4)) (sar_d se_int (sar_d (se_val (pv 2)) sar_nil))))) (by intro _; rfl))) (sss_one (ss_raiseP rfl tk (T.i_BadRow) form_BadRow (hr.mono (by decide)) (by rfl) (se_val (pv 3)))) sss_nil))))))
theorem sc_are_pairs : FnScope ["value", "people", "pair", "i", "j"] ["value", "people"] (defScope s_are_pairs) := ⟨rfl, rfl, rfl, by decide +kernel, rfl, by decide +kernel, by decide +kernel⟩
def b_are_pairs : M Z.Flow :=
  mseq (mifS (mor (mnot (mtru (.val (mop1 (isiD .tuple) (.slot 0))))) (mnot (mtru (.val (mop1 allD (.val (mbind (mcomp [2] (mitems (mval 0)) (gnm 2) (mpure true) (mandV (mop1 (isiD .tuple) (.slot 2)) (mop2 eqD (.val (mop1 lenD (.slot 2))) (.val (mpure (.int 2)))))) fun ds => mpure (.lst ds)))))))) (mret (mpure (.bl false))) (mnx))
  (mret (mop1 allD (.val (mbind (mcomp [3, 4] (mitems (mval 0)) (gtup 2 (gcons (gnm 3) (gcons (gnm 4) (gnil)))) (mpure true) (mandV (mcall m_is_from_to [.d (mval 3), .d (mpure (.int 0)), .d (mop2 subD (.slot 1) (.val (mpure (.int 1))))]) (mandV (mcall m_is_from_to [.d (mval 4), .d (mpure (.int 0)), .d (mop2 subD (.slot 1) (.val (mpure (.int 1))))]) (mop2 ltD (.slot 3) (.slot 4))))) fun ds => mpure (.lst ds)))))
def m_are_pairs : Fn := runBody 5 b_are_pairs
theorem ok_are_pairs (T : Txt P K mg) : FnOk P w K mg base (L2N.CX P w) 3 T.a_are_pairs T.fd_are_pairs ["value", "people"] (spM K mg 2 m_are_pairs) :=
  fn_ok (k := 2) T.F_are_pairs sc_are_pairs (fun cdv A outer s H E hr => by
  have tk : L2N.Takes (cxOf (L2N.CX P w) P w K mg base ["value", "people", "pair", "i", "j"] "are_pairs" (defScope s_are_pairs) T.a_are_pairs cdv A outer s H E) (fun cls d _ H => E cls d H) := L2N.takes_of rfl rfl rfl rfl
  have hp : PassesOwn (model (cxOf (L2N.CX P w) P w K mg base ["value", "people", "pair", "i", "j"] "are_pairs" (defScope s_are_pairs) T.a_are_pairs cdv A outer s H E).prog (cxOf (L2N.CX P w) P w K mg base ["value", "people", "pair", "i", "j"] "are_pairs" (defScope s_are_pairs) T.a_are_pairs cdv A outer s H E).w) (cxOf (L2N.CX P w) P w K mg base ["value", "people", "pair", "i", "j"] "are_pairs" (defScope s_are_pairs) T.a_are_pairs cdv A outer s H E).A (cxOf (L2N.CX P w) P w K mg base ["value", "people", "pair", "i", "j"] "are_pairs" (defScope s_are_pairs) T.a_are_pairs cdv A outer s H E).env (cxOf (L2N.CX P w) P w K mg base ["value", "people", "pair", "i", "j"] "are_pairs" (defScope s_are_pairs) T.a_are_pairs cdv A outer s H E).xe := passes_of rfl
  have hu : (A.deeper (PyProof.Rows.envOfC "are_pairs" (defScope s_are_pairs) s.heap.objs.size T.a_are_pairs cdv)).units + 64 < cLine := hr.units
  have hu5 : (A.deeper (PyProof.Rows.envOfC "are_pairs" (defScope s_are_pairs) s.heap.objs.size T.a_are_pairs cdv)).units + 65 < cLine := by have := hr.un; omega
  have nd : (["value", "people", "pair", "i", "j"] : List Str).Nodup := sc_are_pairs.nd
  exact (sss_cons (ss_if (SW.st (sw_or (st_not (st_tru (SE.so (se_isi (by rfl) T.n_isinstance (so_slot (pv 0)) (pe_bltn (v := .ty (Ty.nm .tuple)) (by rfl) T.n_tuple (by decide +kernel) rfl))) (by intro _; rfl))) (sw_or1 (st_not (st_tru (SE.so (se_callB1 (cr_all rfl) sem_all (by rfl) T.n_all (by decide +kernel) (SE.so (SF.se (sf_comp (own := [("pair", 2)]) rfl nd  (si_seq (se_val (pv 0))) (blkOk_by (own := [("pair", 2)]) (N := ["value", "people", "pair", "i", "j"]) (sc := defScope s_are_pairs) (by decide +kernel)) (fun _ _ _ _ _ => (sg_name (i := 2) (by decide) (pg_name (i := 2) nd rfl (by first | exact Or.inl rfl | exact Or.inr rfl)))) (fun _ _ _ _ _ => spts_nil) (fun _ _ _ _ _ => (se_and (se_isi (by rfl) T.n_isinstance (so_slot (pv 2)) (pe_bltn (v := .ty (Ty.nm .tuple)) (by rfl) T.n_tuple (by decide +kernel) rfl)) (se_one (se_cmp (op_eqA hu) sem_eq (SE.so (se_callB1 call_len sem_len (by rfl) T.n_len (by decide +kernel) (so_slot (pv 2)))) (SE.so se_int) (nomark _)))))))))) (by intro _; rfl)))))) (sss_one (ss_ret se_bl)) sss_nil)
    (sss_one (ss_ret (se_callB1 (cr_all rfl) sem_all (by rfl) T.n_all (by decide +kernel) (SE.so (SF.se (sf_comp (own := [("i", 3), ("j", 4)]) rfl nd  (si_seq (se_val (pv 0))) (blkOk_by (own := [("i", 3), ("j", 4)]) (N := ["value", "people", "pair", "i", "j"]) (sc := defScope s_are_pairs) (by decide +kernel)) (fun _ _ _ _ _ => (sg_tup rfl (sg_cons (sg_name (i := 3) (by decide) (pg_name (i := 3) nd rfl (by first | exact Or.inl rfl | exact Or.inr rfl))) (sg_cons (sg_name (i := 4) (by decide) (pg_name (i := 4) nd rfl (by first | exact Or.inl rfl | exact Or.inr rfl))) sg_nil)))) (fun _ _ _ _ _ => spts_nil) (fun _ _ _ _ _ => (fun (tk1 : L2N.Takes _ W0) => (se_and (se_call ((ok_is_from_to T).mono (by decide)) hr (by rfl) T.g_is_from_to T.F_is_from_to.kp T.b_is_from_to tk1 (sar_d (se_val (pv 3)) (sar_d se_int (sar_d (se_op op_sub sem_sub (so_slot (pv 1)) (SE.so se_int)) sar_nil)))) (se_and (se_call ((ok_is_from_to T).mono (by decide)) hr (by rfl) T.g_is_from_to T.F_is_from_to.kp T.b_is_from_to tk1 (sar_d (se_val (pv 4)) (sar_d se_int (sar_d (se_op op_sub sem_sub (so_slot (pv 1)) (SE.so se_int)) sar_nil)))) (se_one (se_cmp op_lt sem_lt (so_slot (pv 3)) (so_slot (pv 4)) (nomark _)))))) takesN)))))))))
theorem sc_check_edges : FnScope ["people", "value", "k"] ["people", "value"] (defScope s_check_edges) := ⟨rfl, rfl, rfl, by decide +kernel, rfl, by decide +kernel, by decide +kernel⟩
def b_check_edges : M Z.Flow :=
  mifS (mor (mnot (mtru (.val (mcall m_are_pairs [.d (mval 1), .d (mval 0)])))) (mnot (mtru (.val (mop1 allD (.val (mbind (mcomp [2] (mrng rng1 (mcons (mop2 subD (.val (mop1 lenD (.slot 1))) (.val (mpure (.int 1)))) (mpure []))) (gnm 2) (mpure true) (mop2 ltTD (.val (mop2 idxD (.slot 1) (.slot 2))) (.val (mop2 idxD (.slot 1) (.val (mop2 addD (.slot 2) (.val (mpure (.int 1))))))))) fun ds => mpure (.lst ds)))))))) (mraise "BadCalls") (mnx)
def m_check_edges : Fn := runBody 3 b_check_edges
theorem ok_check_edges (T : Txt P K mg) : FnOk P w K mg base (L2N.CX P w) 4 T.a_check_edges T.fd_check_edges ["people", "value"] (spM K mg 2 m_check_edges) :=
  fn_ok (k := 3) T.F_check_edges sc_check_edges (fun cdv A outer s H E hr => by
  have tk : L2N.Takes (cxOf (L2N.CX P w) P w K mg base ["people", "value", "k"] "check_edges" (defScope s_check_edges) T.a_check_edges cdv A outer s H E) (fun cls d _ H => E cls d H) := L2N.takes_of rfl rfl rfl rfl
  have hp : PassesOwn (model (cxOf (L2N.CX P w) P w K mg base ["people", "value", "k"] "check_edges" (defScope s_check_edges) T.a_check_edges cdv A outer s H E).prog (cxOf (L2N.CX P w) P w K mg base ["people", "value", "k"] "check_edges" (defScope s_check_edges) T.a_check_edges cdv A outer s H E).w) (cxOf (L2N.CX P w) P w K mg base ["people", "value", "k"] "check_edges" (defScope s_check_edges) T.a_check_edges cdv A outer s H E).A (cxOf (L2N.CX P w) P w K mg base ["people", "value", "k"] "check_edges" (defScope s_check_edges) T.a_check_edges cdv A outer s H E).env (cxOf (L2N.CX P w) P w K mg base ["people", "value", "k"] "check_edges" (defScope s_check_edges) T.a_check_edges cdv A outer s H E).xe := passes_of rfl
  have hu : (A.deeper (PyProof.Rows.envOfC "check_edges" (defScope s_check_edges) s.heap.objs.size T.a_check_edges cdv)).units + 64 < cLine := hr.units
  have hu5 : (A.deeper (PyProof.Rows.envOfC "check_edges" (defScope s_check_edges) s.heap.objs.size T.a_check_edges cdv)).units + 65 < cLine := by have := hr.un; omega
  have nd : (["people", "value", "k"] : List Str).Nodup := sc_check_edges.nd
  exact (sss_one (ss_if (SW.st (sw_or (st_not (st_tru (SE.so (se_call ((ok_are_pairs T).mono (by decide)) hr (by rfl) T.g_are_pairs T.F_are_pairs.kp T.b_are_pairs tk (sar_d (se_val (pv 1)) (sar_d (se_val (pv 0)) sar_nil)))) (by intro _; rfl))) (sw_or1 (st_not (st_tru (SE.so (se_callB1 (cr_all rfl) sem_all (by rfl) T.n_all (by decide +kernel) (SE.so (SF.se (sf_comp (own := [("k", 2)]) rfl nd  (si_range1 (by rfl) T.n_range (sa_cons (se_op op_sub sem_sub (SE.so (se_callB1 call_len sem_len (by rfl) T.n_len (by decide +kernel) (so_slot (pv 1)))) (SE.so se_int)) sa_nil)) (blkOk_by (own := [("k", 2)]) (N := ["people", "value", "k"]) (sc := defScope s_check_edges) (by decide +kernel)) (fun _ _ _ _ _ => (sg_name (i := 2) (by decide) (pg_name (i := 2) nd rfl (by first | exact Or.inl rfl | exact Or.inr rfl)))) (fun _ _ _ _ _ => spts_nil) (fun _ _ _ _ _ => (se_cmp (op_ltA hu) sem_ltT (SE.so (se_ix (so_slot (pv 1)) (so_slot (pv 2)) (fun _ _ => rfl))) (SE.so (se_ix (so_slot (pv 1)) (SE.so (se_op op_addA sem_add (so_slot (pv 2)) (SE.so se_int))) (fun _ _ => rfl))) (nomark _)))))))) (by intro _; rfl)))))) (sss_one (ss_raise rfl tk (T.x_BadCalls) (by rfl))) sss_nil)))
theorem sc_check_bits : FnScope ["value", "many"] ["value", "many"] (defScope s_check_bits) := ⟨rfl, rfl, rfl, by decide +kernel, rfl, by decide +kernel, by decide +kernel⟩
def b_check_bits : M Z.Flow :=
  mdo (mcall m_check_numbers [.d (mval 0), .d (mval 1), .d (mpure (.int 1))])
def m_check_bits : Fn := runBody 2 b_check_bits
theorem ok_check_bits (T : Txt P K mg) : FnOk P w K mg base (L2N.CX P w) 4 T.a_check_bits T.fd_check_bits ["value", "many"] (spM K mg 2 m_check_bits) :=
  fn_ok (k := 3) T.F_check_bits sc_check_bits (fun cdv A outer s H E hr => by
  have tk : L2N.Takes (cxOf (L2N.CX P w) P w K mg base ["value", "many"] "check_bits" (defScope s_check_bits) T.a_check_bits cdv A outer s H E) (fun cls d _ H => E cls d H) := L2N.takes_of rfl rfl rfl rfl
  have hp : PassesOwn (model (cxOf (L2N.CX P w) P w K mg base ["value", "many"] "check_bits" (defScope s_check_bits) T.a_check_bits cdv A outer s H E).prog (cxOf (L2N.CX P w) P w K mg base ["value", "many"] "check_bits" (defScope s_check_bits) T.a_check_bits cdv A outer s H E).w) (cxOf (L2N.CX P w) P w K mg base ["value", "many"] "check_bits" (defScope s_check_bits) T.a_check_bits cdv A outer s H E).A (cxOf (L2N.CX P w) P w K mg base ["value", "many"] "check_bits" (defScope s_check_bits) T.a_check_bits cdv A outer s H E).env (cxOf (L2N.CX P w) P w K mg base ["value", "many"] "check_bits" (defScope s_check_bits) T.a_check_bits cdv A outer s H E).xe := passes_of rfl
  have hu : (A.deeper (PyProof.Rows.envOfC "check_bits" (defScope s_check_bits) s.heap.objs.size T.a_check_bits cdv)).units + 64 < cLine := hr.units
  have hu5 : (A.deeper (PyProof.Rows.envOfC "check_bits" (defScope s_check_bits) s.heap.objs.size T.a_check_bits cdv)).units + 65 < cLine := by have := hr.un; omega
  have nd : (["value", "many"] : List Str).Nodup := sc_check_bits.nd
  exact (sss_one (ss_expr (se_call ((ok_check_numbers T).mono (by decide)) hr (by rfl) T.g_check_numbers T.F_check_numbers.kp T.b_check_numbers tk (sar_d (se_val (pv 0)) (sar_d (se_val (pv 1)) (sar_d se_int sar_nil)))))))
theorem sc_check_round : FnScope ["n", "edges"] ["n", "edges"] (defScope s_check_round) := ⟨rfl, rfl, rfl, by decide +kernel, rfl, by decide +kernel, by decide +kernel⟩
def b_check_round : M Z.Flow :=
  mseq (mdo (mcall m_check_number [.d (mval 0), .d (mpure (.int 2)), .d (mpure (.int 6))]))
  (mdo (mcall m_check_edges [.d (mval 0), .d (mval 1)]))
def m_check_round : Fn := runBody 2 b_check_round
theorem ok_check_round (T : Txt P K mg) : FnOk P w K mg base (L2N.CX P w) 5 T.a_check_round T.fd_check_round ["n", "edges"] (spM K mg 2 m_check_round) :=
  fn_ok (k := 4) T.F_check_round sc_check_round (fun cdv A outer s H E hr => by
  have tk : L2N.Takes (cxOf (L2N.CX P w) P w K mg base ["n", "edges"] "check_round" (defScope s_check_round) T.a_check_round cdv A outer s H E) (fun cls d _ H => E cls d H) := L2N.takes_of rfl rfl rfl rfl
  have hp : PassesOwn (model (cxOf (L2N.CX P w) P w K mg base ["n", "edges"] "check_round" (defScope s_check_round) T.a_check_round cdv A outer s H E).prog (cxOf (L2N.CX P w) P w K mg base ["n", "edges"] "check_round" (defScope s_check_round) T.a_check_round cdv A outer s H E).w) (cxOf (L2N.CX P w) P w K mg base ["n", "edges"] "check_round" (defScope s_check_round) T.a_check_round cdv A outer s H E).A (cxOf (L2N.CX P w) P w K mg base ["n", "edges"] "check_round" (defScope s_check_round) T.a_check_round cdv A outer s H E).env (cxOf (L2N.CX P w) P w K mg base ["n", "edges"] "check_round" (defScope s_check_round) T.a_check_round cdv A outer s H E).xe := passes_of rfl
  have hu : (A.deeper (PyProof.Rows.envOfC "check_round" (defScope s_check_round) s.heap.objs.size T.a_check_round cdv)).units + 64 < cLine := hr.units
  have hu5 : (A.deeper (PyProof.Rows.envOfC "check_round" (defScope s_check_round) s.heap.objs.size T.a_check_round cdv)).units + 65 < cLine := by have := hr.un; omega
  have nd : (["n", "edges"] : List Str).Nodup := sc_check_round.nd
  exact (sss_cons (ss_expr (se_call ((ok_check_number T).mono (by decide)) hr (by rfl) T.g_check_number T.F_check_number.kp T.b_check_number tk (sar_d (se_val (pv 0)) (sar_d se_int (sar_d (se_pure (pe_glob (v := .int 6) (by rfl) T.c_MOST_PEOPLE ⟨_, rfl⟩) fun _ _ => .int _) sar_nil)))))
    (sss_one (ss_expr (se_call ((ok_check_edges T).mono (by decide)) hr (by rfl) T.g_check_edges T.F_check_edges.kp T.b_check_edges tk (sar_d (se_val (pv 0)) (sar_d (se_val (pv 1)) sar_nil)))))))
theorem sc_words_said : FnScope ["n", "edges", "coins", "secrets", "found", "i", "j", "coin", "bit"] ["n", "edges", "coins", "secrets"] (defScope s_words_said) := ⟨rfl, rfl, rfl, by decide +kernel, rfl, by decide +kernel, by decide +kernel⟩
def b_words_said : M Z.Flow :=
  mseq (msetF 4 (mcomp [8] (mitems (mval 3)) (gnm 8) (mpure true) (mval 8)))
  (mseq (mforS (mzipTT (mval 1) (mval 2)) (gtup 2 (gcons (gtup 2 (gcons (gnm 5) (gcons (gnm 6) (gnil)))) (gcons (gnm 7) (gnil)))) (mseq (msetIx 4 (mval 5) (mop2 modD (.val (mop2 addD (.val (mop2 idxD (.slot 4) (.slot 5))) (.slot 7))) (.val (mpure (.int 2)))))
  (msetIx 4 (mval 6) (mop2 modD (.val (mop2 addD (.val (mop2 idxD (.slot 4) (.slot 6))) (.slot 7))) (.val (mpure (.int 2)))))))
  (mret (mop1 tupleD (.val (mbind (mcutL (.slot 4) (mpure none) (mbind (mval 0) fun x => mbind (mopt (toI x)) fun i => mpure (some i))) fun ds => mpure (.lst ds))))))
def m_words_said : Fn := runBody 9 b_words_said
theorem ok_words_said (T : Txt P K mg) : FnOk P w K mg base (L2N.CX P w) 1 T.a_words_said T.fd_words_said ["n", "edges", "coins", "secrets"] (spM K mg 4 m_words_said) :=
  fn_ok (k := 0) T.F_words_said sc_words_said (fun cdv A outer s H E hr => by
  have tk : L2N.Takes (cxOf (L2N.CX P w) P w K mg base ["n", "edges", "coins", "secrets", "found", "i", "j", "coin", "bit"] "words_said" (defScope s_words_said) T.a_words_said cdv A outer s H E) (fun cls d _ H => E cls d H) := L2N.takes_of rfl rfl rfl rfl
  have hp : PassesOwn (model (cxOf (L2N.CX P w) P w K mg base ["n", "edges", "coins", "secrets", "found", "i", "j", "coin", "bit"] "words_said" (defScope s_words_said) T.a_words_said cdv A outer s H E).prog (cxOf (L2N.CX P w) P w K mg base ["n", "edges", "coins", "secrets", "found", "i", "j", "coin", "bit"] "words_said" (defScope s_words_said) T.a_words_said cdv A outer s H E).w) (cxOf (L2N.CX P w) P w K mg base ["n", "edges", "coins", "secrets", "found", "i", "j", "coin", "bit"] "words_said" (defScope s_words_said) T.a_words_said cdv A outer s H E).A (cxOf (L2N.CX P w) P w K mg base ["n", "edges", "coins", "secrets", "found", "i", "j", "coin", "bit"] "words_said" (defScope s_words_said) T.a_words_said cdv A outer s H E).env (cxOf (L2N.CX P w) P w K mg base ["n", "edges", "coins", "secrets", "found", "i", "j", "coin", "bit"] "words_said" (defScope s_words_said) T.a_words_said cdv A outer s H E).xe := passes_of rfl
  have hu : (A.deeper (PyProof.Rows.envOfC "words_said" (defScope s_words_said) s.heap.objs.size T.a_words_said cdv)).units + 64 < cLine := hr.units
  have hu5 : (A.deeper (PyProof.Rows.envOfC "words_said" (defScope s_words_said) s.heap.objs.size T.a_words_said cdv)).units + 65 < cLine := by have := hr.un; omega
  have nd : (["n", "edges", "coins", "secrets", "found", "i", "j", "coin", "bit"] : List Str).Nodup := sc_words_said.nd
  exact (sss_cons (ss_setLc (own := [("bit", 8)]) (i := 4) rfl nd rfl rfl (sw_true rfl rfl rfl (by decide +kernel)) (si_seq (se_val (pv 3))) (blkOk_by (own := [("bit", 8)]) (N := ["n", "edges", "coins", "secrets", "found", "i", "j", "coin", "bit"]) (sc := defScope s_words_said) (by decide +kernel)) (fun _ _ _ _ _ => (sg_name (i := 8) (by decide) (pg_name (i := 8) nd rfl (by first | exact Or.inl rfl | exact Or.inr rfl)))) (fun _ _ _ _ _ => spts_nil) (fun _ _ _ _ _ => (se_val (pv 8))))
    (sss_cons (ss_for1 (js := [5, 6, 7]) hp rfl (si_zipMT (by rfl) T.n_zip (se_val (pv 1)) (se_val (pv 2))) (sg_tup rfl (sg_cons (sg_tup rfl (sg_cons (sg_name (i := 5) (by decide) (pg_name (i := 5) nd rfl (by first | exact Or.inl rfl | exact Or.inr rfl))) (sg_cons (sg_name (i := 6) (by decide) (pg_name (i := 6) nd rfl (by first | exact Or.inl rfl | exact Or.inr rfl))) sg_nil))) (sg_cons (sg_name (i := 7) (by decide) (pg_name (i := 7) nd rfl (by first | exact Or.inl rfl | exact Or.inr rfl))) sg_nil))) (sss_cons (ss_setIx (i := 4) (pv 4) (se_val (pv 5)) (se_op op_mod sem_mod (SE.so (se_op op_addA sem_add (SE.so (se_ix (so_slot (pv 4)) (so_slot (pv 5)) (fun _ _ => rfl))) (so_slot (pv 7)))) (SE.so se_int)))
    (sss_one (ss_setIx (i := 4) (pv 4) (se_val (pv 6)) (se_op op_mod sem_mod (SE.so (se_op op_addA sem_add (SE.so (se_ix (so_slot (pv 4)) (so_slot (pv 6)) (fun _ _ => rfl))) (so_slot (pv 7)))) (SE.so se_int))))))
    (sss_one (ss_ret (se_callT1 call_tuple_of sem_tuple (by rfl) T.n_tuple (by decide +kernel) (SE.so (SF.se (sf_cut (so_slot (pv 4)) spo_none (spo_some (se_val (pv 0))))))))))))
theorem sc_said : FnScope ["n", "edges", "coins", "secrets"] ["n", "edges", "coins", "secrets"] (defScope s_said) := ⟨rfl, rfl, rfl, by decide +kernel, rfl, by decide +kernel, by decide +kernel⟩
def b_said : M Z.Flow :=
  mseq (mdo (mcall m_check_round [.d (mval 0), .d (mval 1)]))
  (mseq (mdo (mcall m_check_bits [.d (mval 2), .d (mop1 lenD (.slot 1))]))
  (mseq (mdo (mcall m_check_bits [.d (mval 3), .d (mval 0)]))
  (mret (mcall m_words_said [.d (mval 0), .d (mval 1), .d (mval 2), .d (mval 3)]))))
def m_said : Fn := runBody 4 b_said
theorem ok_said (T : Txt P K mg) : FnOk P w K mg base (L2N.CX P w) 6 T.a_said T.fd_said ["n", "edges", "coins", "secrets"] (spM K mg 4 m_said) :=
  fn_ok (k := 5) T.F_said sc_said (fun cdv A outer s H E hr => by
  have tk : L2N.Takes (cxOf (L2N.CX P w) P w K mg base ["n", "edges", "coins", "secrets"] "said" (defScope s_said) T.a_said cdv A outer s H E) (fun cls d _ H => E cls d H) := L2N.takes_of rfl rfl rfl rfl
  have hp : PassesOwn (model (cxOf (L2N.CX P w) P w K mg base ["n", "edges", "coins", "secrets"] "said" (defScope s_said) T.a_said cdv A outer s H E).prog (cxOf (L2N.CX P w) P w K mg base ["n", "edges", "coins", "secrets"] "said" (defScope s_said) T.a_said cdv A outer s H E).w) (cxOf (L2N.CX P w) P w K mg base ["n", "edges", "coins", "secrets"] "said" (defScope s_said) T.a_said cdv A outer s H E).A (cxOf (L2N.CX P w) P w K mg base ["n", "edges", "coins", "secrets"] "said" (defScope s_said) T.a_said cdv A outer s H E).env (cxOf (L2N.CX P w) P w K mg base ["n", "edges", "coins", "secrets"] "said" (defScope s_said) T.a_said cdv A outer s H E).xe := passes_of rfl
  have hu : (A.deeper (PyProof.Rows.envOfC "said" (defScope s_said) s.heap.objs.size T.a_said cdv)).units + 64 < cLine := hr.units
  have hu5 : (A.deeper (PyProof.Rows.envOfC "said" (defScope s_said) s.heap.objs.size T.a_said cdv)).units + 65 < cLine := by have := hr.un; omega
  have nd : (["n", "edges", "coins", "secrets"] : List Str).Nodup := sc_said.nd
  exact (sss_cons (ss_expr (se_call ((ok_check_round T).mono (by decide)) hr (by rfl) T.g_check_round T.F_check_round.kp T.b_check_round tk (sar_d (se_val (pv 0)) (sar_d (se_val (pv 1)) sar_nil))))
    (sss_cons (ss_expr (se_call ((ok_check_bits T).mono (by decide)) hr (by rfl) T.g_check_bits T.F_check_bits.kp T.b_check_bits tk (sar_d (se_val (pv 2)) (sar_d (se_callB1 call_len sem_len (by rfl) T.n_len (by decide +kernel) (so_slot (pv 1))) sar_nil))))
    (sss_cons (ss_expr (se_call ((ok_check_bits T).mono (by decide)) hr (by rfl) T.g_check_bits T.F_check_bits.kp T.b_check_bits tk (sar_d (se_val (pv 3)) (sar_d (se_val (pv 0)) sar_nil))))
    (sss_one (ss_ret (se_call ((ok_words_said T).mono (by decide)) hr (by rfl) T.g_words_said T.F_words_said.kp T.b_words_said tk (sar_d (se_val (pv 0)) (sar_d (se_val (pv 1)) (sar_d (se_val (pv 2)) (sar_d (se_val (pv 3)) sar_nil)))))))))))
theorem sc_sum_said : FnScope ["n", "edges", "coins", "secrets"] ["n", "edges", "coins", "secrets"] (defScope s_sum_said) := ⟨rfl, rfl, rfl, by decide +kernel, rfl, by decide +kernel, by decide +kernel⟩
def b_sum_said : M Z.Flow :=
  mret (mop2 modD (.val (mop1 sumTD (.val (mcall m_said [.d (mval 0), .d (mval 1), .d (mval 2), .d (mval 3)])))) (.val (mpure (.int 2))))
def m_sum_said : Fn := runBody 4 b_sum_said
theorem ok_sum_said (T : Txt P K mg) : FnOk P w K mg base (L2N.CX P w) 7 T.a_sum_said T.fd_sum_said ["n", "edges", "coins", "secrets"] (spM K mg 4 m_sum_said) :=
  fn_ok (k := 6) T.F_sum_said sc_sum_said (fun cdv A outer s H E hr => by
  have tk : L2N.Takes (cxOf (L2N.CX P w) P w K mg base ["n", "edges", "coins", "secrets"] "sum_said" (defScope s_sum_said) T.a_sum_said cdv A outer s H E) (fun cls d _ H => E cls d H) := L2N.takes_of rfl rfl rfl rfl
  have hp : PassesOwn (model (cxOf (L2N.CX P w) P w K mg base ["n", "edges", "coins", "secrets"] "sum_said" (defScope s_sum_said) T.a_sum_said cdv A outer s H E).prog (cxOf (L2N.CX P w) P w K mg base ["n", "edges", "coins", "secrets"] "sum_said" (defScope s_sum_said) T.a_sum_said cdv A outer s H E).w) (cxOf (L2N.CX P w) P w K mg base ["n", "edges", "coins", "secrets"] "sum_said" (defScope s_sum_said) T.a_sum_said cdv A outer s H E).A (cxOf (L2N.CX P w) P w K mg base ["n", "edges", "coins", "secrets"] "sum_said" (defScope s_sum_said) T.a_sum_said cdv A outer s H E).env (cxOf (L2N.CX P w) P w K mg base ["n", "edges", "coins", "secrets"] "sum_said" (defScope s_sum_said) T.a_sum_said cdv A outer s H E).xe := passes_of rfl
  have hu : (A.deeper (PyProof.Rows.envOfC "sum_said" (defScope s_sum_said) s.heap.objs.size T.a_sum_said cdv)).units + 64 < cLine := hr.units
  have hu5 : (A.deeper (PyProof.Rows.envOfC "sum_said" (defScope s_sum_said) s.heap.objs.size T.a_sum_said cdv)).units + 65 < cLine := by have := hr.un; omega
  have nd : (["n", "edges", "coins", "secrets"] : List Str).Nodup := sc_sum_said.nd
  exact (sss_one (ss_ret (se_op op_mod sem_mod (SE.so (se_callB1 (cr_sumA rfl) sem_sumT (by rfl) T.n_sum (by decide +kernel) (SE.so (se_call ((ok_said T).mono (by decide)) hr (by rfl) T.g_said T.F_said.kp T.b_said tk (sar_d (se_val (pv 0)) (sar_d (se_val (pv 1)) (sar_d (se_val (pv 2)) (sar_d (se_val (pv 3)) sar_nil)))))))) (SE.so se_int)))))
theorem sc__law_pool : FnScope ["script", "state", "great", "k"] ["script"] (defScope s__law_pool) := ⟨rfl, rfl, rfl, by decide +kernel, rfl, by decide +kernel, by decide +kernel⟩
def b__law_pool : M Z.Flow :=
  mseq (mset 1 (mpure (.int 1009)))
  (mseq (msetF 2 (mlst (mpure [])))
  (mseq (mforS (mrng rng1 (mcons (mop1 lenD (.slot 0)) (mpure []))) (gnm 3) (mseq (mset 1 (mop2 modD (.val (mop1 intD (.val (mop2 addD (.val (mop2 addD (.val (mop2 addD (.val (mop2 mulAD (.slot 1) (.slot 1))) (.val (mop2 idxD (.slot 0) (.slot 3))))) (.slot 3))) (.val (mpure (.int 3))))))) (.val (mpure (.int 2305843009213693951)))))
  (mseq (mset 1 (mop2 modD (.val (mop1 intD (.val (mop2 addD (.val (mop2 mulAD (.slot 1) (.slot 1))) (.val (mpure (.int 77003))))))) (.val (mpure (.int 2305843009213693951)))))
  (mifS (mbool (mop2 geD (.val (mop2 idxD (.slot 0) (.slot 3))) (.val (mpure (.int 1000000000000000000))))) (mdo (mmeth1 2 appD (mop2 idxD (.slot 0) (.slot 3)))) (mnx)))))
  (mretF (mop2F catL (.val (mbind (mlst (mcons (mval 1) (mcons (mpure (.int 0)) (mpure [])))) fun ds => mpure (.lst ds))) (.slot 2)))))
def m__law_pool : Fn := runBody 4 b__law_pool
theorem ok__law_pool (T : Txt P K mg) : FnOk P w K mg base (L2N.CX P w) 1 T.a__law_pool T.fd__law_pool ["script"] (spM K mg 1 m__law_pool) :=
  fn_ok (k := 0) T.F__law_pool sc__law_pool (fun cdv A outer s H E hr => by
  have tk : L2N.Takes (cxOf (L2N.CX P w) P w K mg base ["script", "state", "great", "k"] "_law_pool" (defScope s__law_pool) T.a__law_pool cdv A outer s H E) (fun cls d _ H => E cls d H) := L2N.takes_of rfl rfl rfl rfl
  have hp : PassesOwn (model (cxOf (L2N.CX P w) P w K mg base ["script", "state", "great", "k"] "_law_pool" (defScope s__law_pool) T.a__law_pool cdv A outer s H E).prog (cxOf (L2N.CX P w) P w K mg base ["script", "state", "great", "k"] "_law_pool" (defScope s__law_pool) T.a__law_pool cdv A outer s H E).w) (cxOf (L2N.CX P w) P w K mg base ["script", "state", "great", "k"] "_law_pool" (defScope s__law_pool) T.a__law_pool cdv A outer s H E).A (cxOf (L2N.CX P w) P w K mg base ["script", "state", "great", "k"] "_law_pool" (defScope s__law_pool) T.a__law_pool cdv A outer s H E).env (cxOf (L2N.CX P w) P w K mg base ["script", "state", "great", "k"] "_law_pool" (defScope s__law_pool) T.a__law_pool cdv A outer s H E).xe := passes_of rfl
  have hu : (A.deeper (PyProof.Rows.envOfC "_law_pool" (defScope s__law_pool) s.heap.objs.size T.a__law_pool cdv)).units + 64 < cLine := hr.units
  have hu5 : (A.deeper (PyProof.Rows.envOfC "_law_pool" (defScope s__law_pool) s.heap.objs.size T.a__law_pool cdv)).units + 65 < cLine := by have := hr.un; omega
  have nd : (["script", "state", "great", "k"] : List Str).Nodup := sc__law_pool.nd
  exact (sss_cons (ss_set (i := 1) nd rfl (Or.inl rfl) se_int)
    (sss_cons (ss_setF (i := 2) nd rfl (Or.inl rfl) (sf_lst sa_nil))
    (sss_cons (ss_for1 (js := [3]) hp rfl (si_range1 (by rfl) T.n_range (sa_cons (se_callB1 call_len sem_len (by rfl) T.n_len (by decide +kernel) (so_slot (pv 0))) sa_nil)) (sg_name (i := 3) (by decide) (pg_name (i := 3) nd rfl (by first | exact Or.inl rfl | exact Or.inr rfl))) (sss_cons (ss_set (i := 1) nd rfl (Or.inl rfl) (se_op op_mod sem_mod (SE.so (se_callT1 call_int1 sem_int (by rfl) T.n_int (by decide +kernel) (SE.so (se_op op_addA sem_add (SE.so (se_op op_addA sem_add (SE.so (se_op op_addA sem_add (SE.so (se_op op_mulA sem_mulA (so_slot (pv 1)) (so_slot (pv 1)))) (SE.so (se_ix (so_slot (pv 0)) (so_slot (pv 3)) (fun _ _ => rfl))))) (so_slot (pv 3)))) (SE.so se_int))))) (SE.so se_int)))
    (sss_cons (ss_set (i := 1) nd rfl (Or.inl rfl) (se_op op_mod sem_mod (SE.so (se_callT1 call_int1 sem_int (by rfl) T.n_int (by decide +kernel) (SE.so (se_op op_addA sem_add (SE.so (se_op op_mulA sem_mulA (so_slot (pv 1)) (so_slot (pv 1)))) (SE.so se_int))))) (SE.so se_int)))
    (sss_one (ss_if (st_cmp op_ge sem_ge (SE.so (se_ix (so_slot (pv 0)) (so_slot (pv 3)) (fun _ _ => rfl))) (SE.so se_int) (nomark _)) (sss_one (ss_expr (se_meth1 sem_app (pe_bm PySem.F.plainAttrs_list PySem.F.slot_list_append PySem.F.type_list_append mt_append (pv 2) (pa_cons (se_ix (so_slot (pv 0)) (so_slot (pv 3)) (fun _ _ => rfl)) pa_nil))))) sss_nil)))))
    (sss_one (ss_retF (sf_op op_cat sem_cat (SE.so (SF.se (sf_lst (sa_cons (se_val (pv 1)) (sa_cons se_int sa_nil))))) (so_slot (pv 2)))))))))
theorem sc__law_take : FnScope ["pool", "many", "found", "state"] ["pool", "many"] (defScope s__law_take) := ⟨rfl, rfl, rfl, by decide +kernel, rfl, by decide +kernel, by decide +kernel⟩
def b__law_take : M Z.Flow :=
  mseq (mifS (mand (mbool (mop2 eqD (.val (mop2 idxD (.slot 0) (.val (mpure (.int 1))))) (.val (mpure (.int 0))))) (mbool (mop2 gtD (.val (mop1 lenD (.slot 0))) (.val (mpure (.int 2)))))) (msetIx 0 (mpure (.int 1)) (mmeth1 0 popAtD (mpure (.int 2)))) (mnx))
  (mseq (mifS (mbool (mop2 gtD (.val (mop2 idxD (.slot 0) (.val (mpure (.int 1))))) (.val (mpure (.int 0))))) (mseq (mset 2 (mop2 modD (.val (mop1 intD (.val (mop2 idxD (.slot 0) (.val (mpure (.int 1))))))) (.slot 1)))
  (mseq (msetIx 0 (mpure (.int 1)) (mop2 divD (.val (mop2 idxD (.slot 0) (.val (mpure (.int 1))))) (.slot 1)))
  (mret (mval 2)))) (mnx))
  (mseq (mset 3 (mop2 modD (.val (mop1 intD (.val (mop2 addD (.val (mop2 mulAD (.val (mop2 idxD (.slot 0) (.val (mpure (.int 0))))) (.val (mop2 idxD (.slot 0) (.val (mpure (.int 0))))))) (.val (mpure (.int 90001))))))) (.val (mpure (.int 2305843009213693951)))))
  (mseq (msetIx 0 (mpure (.int 0)) (mop2 modD (.val (mop1 intD (.val (mop2 addD (.val (mop2 mulAD (.slot 3) (.slot 3))) (.val (mpure (.int 40009))))))) (.val (mpure (.int 2305843009213693951)))))
  (mret (mop2 modD (.val (mop1 intD (.val (mop2 divD (.val (mop2 idxD (.slot 0) (.val (mpure (.int 0))))) (.val (mpure (.int 1048576))))))) (.slot 1))))))
def m__law_take : Fn := runBody 4 b__law_take
theorem ok__law_take (T : Txt P K mg) : FnOk P w K mg base (L2N.CX P w) 1 T.a__law_take T.fd__law_take ["pool", "many"] (spM K mg 2 m__law_take) :=
  fn_ok (k := 0) T.F__law_take sc__law_take (fun cdv A outer s H E hr => by
  have tk : L2N.Takes (cxOf (L2N.CX P w) P w K mg base ["pool", "many", "found", "state"] "_law_take" (defScope s__law_take) T.a__law_take cdv A outer s H E) (fun cls d _ H => E cls d H) := L2N.takes_of rfl rfl rfl rfl
  have hp : PassesOwn (model (cxOf (L2N.CX P w) P w K mg base ["pool", "many", "found", "state"] "_law_take" (defScope s__law_take) T.a__law_take cdv A outer s H E).prog (cxOf (L2N.CX P w) P w K mg base ["pool", "many", "found", "state"] "_law_take" (defScope s__law_take) T.a__law_take cdv A outer s H E).w) (cxOf (L2N.CX P w) P w K mg base ["pool", "many", "found", "state"] "_law_take" (defScope s__law_take) T.a__law_take cdv A outer s H E).A (cxOf (L2N.CX P w) P w K mg base ["pool", "many", "found", "state"] "_law_take" (defScope s__law_take) T.a__law_take cdv A outer s H E).env (cxOf (L2N.CX P w) P w K mg base ["pool", "many", "found", "state"] "_law_take" (defScope s__law_take) T.a__law_take cdv A outer s H E).xe := passes_of rfl
  have hu : (A.deeper (PyProof.Rows.envOfC "_law_take" (defScope s__law_take) s.heap.objs.size T.a__law_take cdv)).units + 64 < cLine := hr.units
  have hu5 : (A.deeper (PyProof.Rows.envOfC "_law_take" (defScope s__law_take) s.heap.objs.size T.a__law_take cdv)).units + 65 < cLine := by have := hr.un; omega
  have nd : (["pool", "many", "found", "state"] : List Str).Nodup := sc__law_take.nd
  exact (sss_cons (ss_if (SW.st (sw_and (st_cmp (op_eqA hu) sem_eq (SE.so (se_ix (so_slot (pv 0)) (SE.so se_int) (fun _ _ => rfl))) (SE.so se_int) (nomark _)) (sw_and1 (st_cmp op_gt sem_gt (SE.so (se_callB1 call_len sem_len (by rfl) T.n_len (by decide +kernel) (so_slot (pv 0)))) (SE.so se_int) (nomark _))))) (sss_one (ss_setIx (i := 0) (pv 0) se_int (se_meth1 sem_popAt (pe_bm PySem.F.plainAttrs_list PySem.F.slot_list_pop PySem.F.type_list_pop mt_popAt (pv 0) (pa_cons se_int pa_nil))))) sss_nil)
    (sss_cons (ss_if (st_cmp op_gt sem_gt (SE.so (se_ix (so_slot (pv 0)) (SE.so se_int) (fun _ _ => rfl))) (SE.so se_int) (nomark _)) (sss_cons (ss_set (i := 2) nd rfl (Or.inl rfl) (se_op op_mod sem_mod (SE.so (se_callT1 call_int1 sem_int (by rfl) T.n_int (by decide +kernel) (SE.so (se_ix (so_slot (pv 0)) (SE.so se_int) (fun _ _ => rfl))))) (so_slot (pv 1))))
    (sss_cons (ss_setIx (i := 0) (pv 0) se_int (se_op op_fdiv sem_div (SE.so (se_ix (so_slot (pv 0)) (SE.so se_int) (fun _ _ => rfl))) (so_slot (pv 1))))
    (sss_one (ss_ret (se_val (pv 2)))))) sss_nil)
    (sss_cons (ss_set (i := 3) nd rfl (Or.inl rfl) (se_op op_mod sem_mod (SE.so (se_callT1 call_int1 sem_int (by rfl) T.n_int (by decide +kernel) (SE.so (se_op op_addA sem_add (SE.so (se_op op_mulA sem_mulA (SE.so (se_ix (so_slot (pv 0)) (SE.so se_int) (fun _ _ => rfl))) (SE.so (se_ix (so_slot (pv 0)) (SE.so se_int) (fun _ _ => rfl))))) (SE.so se_int))))) (SE.so se_int)))
    (sss_cons (ss_setIx (i := 0) (pv 0) se_int (se_op op_mod sem_mod (SE.so (se_callT1 call_int1 sem_int (by rfl) T.n_int (by decide +kernel) (SE.so (se_op op_addA sem_add (SE.so (se_op op_mulA sem_mulA (so_slot (pv 3)) (so_slot (pv 3)))) (SE.so se_int))))) (SE.so se_int)))
    (sss_one (ss_ret (se_op op_mod sem_mod (SE.so (se_callT1 call_int1 sem_int (by rfl) T.n_int (by decide +kernel) (SE.so (se_op op_fdiv sem_div (SE.so (se_ix (so_slot (pv 0)) (SE.so se_int) (fun _ _ => rfl))) (SE.so se_int))))) (so_slot (pv 1))))))))))
theorem sc__law_same : FnScope ["found", "due", "k"] ["found", "due"] (defScope s__law_same) := ⟨rfl, rfl, rfl, by decide +kernel, rfl, by decide +kernel, by decide +kernel⟩
def b__law_same (r__law_same : Fn) : M Z.Flow :=
  mseq (mifS (mbool (mop2 isAD (.slot 1) (.val (mpure .non)))) (mret (mop2 isAD (.slot 0) (.val (mpure .non)))) (mnx))
  (mseq (mifS (mtru (.val (mop1 (isiD .bool) (.slot 1)))) (mret (mandV (mop1 (isiD .bool) (.slot 0)) (mop2 eqD (.slot 0) (.slot 1)))) (mnx))
  (mseq (mifS (mtru (.val (mop1 (isiD .int) (.slot 1)))) (mret (mandV (mop1 (isiD .int) (.slot 0)) (mandV (mnotV (mop1 (isiD .bool) (.slot 0))) (mop2 eqD (.slot 0) (.slot 1))))) (mnx))
  (mseq (mifS (mor (mnot (mtru (.val (mop1 (isiD .tuple) (.slot 0))))) (mbool (mop2 neD (.val (mop1 lenD (.slot 0))) (.val (mop1 lenD (.slot 1)))))) (mret (mpure (.bl false))) (mnx))
  (mseq (mforS (mrng rng1 (mcons (mop1 lenD (.slot 1)) (mpure []))) (gnm 2) (mifS (mnot (mtru (.val (mcall r__law_same [.d (mop2 idxD (.slot 0) (.slot 2)), .d (mop2 idxD (.slot 1) (.slot 2))])))) (mret (mpure (.bl false))) (mnx)))
  (mret (mpure (.bl true)))))))
def m__law_same : Nat → Fn
  | 0 => fun _ => .bad
  | n + 1 => runBody 3 (b__law_same (m__law_same n))
theorem ok__law_same (T : Txt P K mg) : ∀ n : Nat, FnOk P w K mg base (L2N.CX P w) (0 + n) T.a__law_same T.fd__law_same ["found", "due"] (spM K mg 2 (m__law_same n))
  | 0 => fn_bad
  | n + 1 => by
    have G__law_same := ok__law_same T n
    exact fn_ok (k := 0 + n) T.F__law_same sc__law_same (fun cdv A outer s H E hr => by
  have tk : L2N.Takes (cxOf (L2N.CX P w) P w K mg base ["found", "due", "k"] "_law_same" (defScope s__law_same) T.a__law_same cdv A outer s H E) (fun cls d _ H => E cls d H) := L2N.takes_of rfl rfl rfl rfl
  have hp : PassesOwn (model (cxOf (L2N.CX P w) P w K mg base ["found", "due", "k"] "_law_same" (defScope s__law_same) T.a__law_same cdv A outer s H E).prog (cxOf (L2N.CX P w) P w K mg base ["found", "due", "k"] "_law_same" (defScope s__law_same) T.a__law_same cdv A outer s H E).w) (cxOf (L2N.CX P w) P w K mg base ["found", "due", "k"] "_law_same" (defScope s__law_same) T.a__law_same cdv A outer s H E).A (cxOf (L2N.CX P w) P w K mg base ["found", "due", "k"] "_law_same" (defScope s__law_same) T.a__law_same cdv A outer s H E).env (cxOf (L2N.CX P w) P w K mg base ["found", "due", "k"] "_law_same" (defScope s__law_same) T.a__law_same cdv A outer s H E).xe := passes_of rfl
  have hu : (A.deeper (PyProof.Rows.envOfC "_law_same" (defScope s__law_same) s.heap.objs.size T.a__law_same cdv)).units + 64 < cLine := hr.units
  have hu5 : (A.deeper (PyProof.Rows.envOfC "_law_same" (defScope s__law_same) s.heap.objs.size T.a__law_same cdv)).units + 65 < cLine := by have := hr.un; omega
  have nd : (["found", "due", "k"] : List Str).Nodup := sc__law_same.nd
  exact (sss_cons (ss_if (st_cmp op_isA sem_isA (so_slot (pv 1)) (SE.so se_non) (nomark _)) (sss_one (ss_ret (se_cmp op_isA sem_isA (so_slot (pv 0)) (SE.so se_non) (nomark _)))) sss_nil)
    (sss_cons (ss_if (st_tru (SE.so (se_isi (by rfl) T.n_isinstance (so_slot (pv 1)) (pe_bltn (v := .ty (Ty.nm .bool)) (by rfl) T.n_bool (by decide +kernel) rfl))) (by intro _; rfl)) (sss_one (ss_ret (se_and (se_isi (by rfl) T.n_isinstance (so_slot (pv 0)) (pe_bltn (v := .ty (Ty.nm .bool)) (by rfl) T.n_bool (by decide +kernel) rfl)) (se_one (se_cmp (op_eqA hu) sem_eq (so_slot (pv 0)) (so_slot (pv 1)) (nomark _)))))) sss_nil)
    (sss_cons (ss_if (st_tru (SE.so (se_isi (by rfl) T.n_isinstance (so_slot (pv 1)) (pe_bltn (v := .ty (Ty.nm .int)) (by rfl) T.n_int (by decide +kernel) rfl))) (by intro _; rfl)) (sss_one (ss_ret (se_and (se_isi (by rfl) T.n_isinstance (so_slot (pv 0)) (pe_bltn (v := .ty (Ty.nm .int)) (by rfl) T.n_int (by decide +kernel) rfl)) (se_and (se_not (se_isi (by rfl) T.n_isinstance (so_slot (pv 0)) (pe_bltn (v := .ty (Ty.nm .bool)) (by rfl) T.n_bool (by decide +kernel) rfl))) (se_one (se_cmp (op_eqA hu) sem_eq (so_slot (pv 0)) (so_slot (pv 1)) (nomark _))))))) sss_nil)
    (sss_cons (ss_if (SW.st (sw_or (st_not (st_tru (SE.so (se_isi (by rfl) T.n_isinstance (so_slot (pv 0)) (pe_bltn (v := .ty (Ty.nm .tuple)) (by rfl) T.n_tuple (by decide +kernel) rfl))) (by intro _; rfl))) (sw_or1 (st_cmp (op_neA hu) sem_ne (SE.so (se_callB1 call_len sem_len (by rfl) T.n_len (by decide +kernel) (so_slot (pv 0)))) (SE.so (se_callB1 call_len sem_len (by rfl) T.n_len (by decide +kernel) (so_slot (pv 1)))) (nomark _))))) (sss_one (ss_ret se_bl)) sss_nil)
    (sss_cons (ss_for1 (js := [2]) hp rfl (si_range1 (by rfl) T.n_range (sa_cons (se_callB1 call_len sem_len (by rfl) T.n_len (by decide +kernel) (so_slot (pv 1))) sa_nil)) (sg_name (i := 2) (by decide) (pg_name (i := 2) nd rfl (by first | exact Or.inl rfl | exact Or.inr rfl))) (sss_one (ss_if (st_not (st_tru (SE.so (se_call G__law_same hr (by rfl) T.g__law_same T.F__law_same.kp T.b__law_same tk (sar_d (se_ix (so_slot (pv 0)) (so_slot (pv 2)) (fun _ _ => rfl)) (sar_d (se_ix (so_slot (pv 1)) (so_slot (pv 2)) (fun _ _ => rfl)) sar_nil)))) (by intro _; rfl))) (sss_one (ss_ret se_bl)) sss_nil)))
    (sss_one (ss_ret se_bl))))))))
theorem sc__law_ties : FnScope ["pool", "n", "pairs", "i", "j", "shape", "middle", "side", "rare", "pair", "k"] ["pool", "n"] (defScope s__law_ties) := ⟨rfl, rfl, rfl, by decide +kernel, rfl, by decide +kernel, by decide +kernel⟩
def b__law_ties : M Z.Flow :=
  mseq (msetF 2 (mlst (mpure [])))
  (mseq (mforS (mrng rng1 (mcons (mval 1) (mpure []))) (gnm 3) (mforS (mrng rng2 (mcons (mop2 addD (.slot 3) (.val (mpure (.int 1)))) (mcons (mval 1) (mpure [])))) (gnm 4) (mdo (mmeth1 2 appD (mtup (mcons (mval 3) (mcons (mval 4) (mpure []))))))))
  (mseq (mset 5 (mcall m__law_take [.io 0, .d (mpure (.int 7))]))
  (mseq (mifS (mbool (mop2 eqD (.slot 5) (.val (mpure (.int 0))))) (mret (mop1 tupleD (.slot 2))) (mnx))
  (mseq (mifS (mbool (mop2 eqD (.slot 5) (.val (mpure (.int 1))))) (mret (mop1 tupleD (.val (mbind (mcomp [9] (mitems (mval 2)) (gnm 9) (mor (mbool (mop2 eqD (.val (mop2 idxD (.slot 9) (.val (mpure (.int 1))))) (.val (mop2 addD (.val (mop2 idxD (.slot 9) (.val (mpure (.int 0))))) (.val (mpure (.int 1))))))) (mbool (mop2 eqD (.slot 9) (.val (mtup (mcons (mpure (.int 0)) (mcons (mop2 subD (.slot 1) (.val (mpure (.int 1)))) (mpure [])))))))) (mval 9)) fun ds => mpure (.lst ds))))) (mnx))
  (mseq (mifS (mbool (mop2 eqD (.slot 5) (.val (mpure (.int 2))))) (mseq (mset 6 (mcall m__law_take [.io 0, .d (mval 1)]))
  (mret (mop1 tupleD (.val (mbind (mcomp [9] (mitems (mval 2)) (gnm 9) (mbool (mop2 inD (.slot 6) (.slot 9))) (mval 9)) fun ds => mpure (.lst ds)))))) (mnx))
  (mseq (mifS (mbool (mop2 eqD (.slot 5) (.val (mpure (.int 3))))) (mseq (mset 7 (mbind (mcomp [10] (mrng rng1 (mcons (mval 1) (mpure []))) (gnm 10) (mpure true) (mcall m__law_take [.io 0, .d (mpure (.int 2))])) fun ds => mpure (.lst ds)))
  (msetF 2 (mcomp [9] (mitems (mval 2)) (gnm 9) (mbool (mop2 eqD (.val (mop2 idxD (.slot 7) (.val (mop2 idxD (.slot 9) (.val (mpure (.int 0))))))) (.val (mop2 idxD (.slot 7) (.val (mop2 idxD (.slot 9) (.val (mpure (.int 1))))))))) (mval 9)))) (mnx))
  (mseq (mset 8 (mop2 addD (.val (mpure (.int 2))) (.val (mcall m__law_take [.io 0, .d (mpure (.int 3))]))))
  (mret (mop1 tupleD (.val (mbind (mcomp [9] (mitems (mval 2)) (gnm 9) (mbool (mop2 eqD (.val (mcall m__law_take [.io 0, .d (mval 8)])) (.val (mpure (.int 0))))) (mval 9)) fun ds => mpure (.lst ds))))))))))))
def m__law_ties : Fn := runBody 11 b__law_ties
theorem ok__law_ties (T : Txt P K mg) : FnOk P w K mg base (L2N.CX P w) 2 T.a__law_ties T.fd__law_ties ["pool", "n"] (spM K mg 2 m__law_ties) :=
  fn_ok (k := 1) T.F__law_ties sc__law_ties (fun cdv A outer s H E hr => by
  have tk : L2N.Takes (cxOf (L2N.CX P w) P w K mg base ["pool", "n", "pairs", "i", "j", "shape", "middle", "side", "rare", "pair", "k"] "_law_ties" (defScope s__law_ties) T.a__law_ties cdv A outer s H E) (fun cls d _ H => E cls d H) := L2N.takes_of rfl rfl rfl rfl
  have hp : PassesOwn (model (cxOf (L2N.CX P w) P w K mg base ["pool", "n", "pairs", "i", "j", "shape", "middle", "side", "rare", "pair", "k"] "_law_ties" (defScope s__law_ties) T.a__law_ties cdv A outer s H E).prog (cxOf (L2N.CX P w) P w K mg base ["pool", "n", "pairs", "i", "j", "shape", "middle", "side", "rare", "pair", "k"] "_law_ties" (defScope s__law_ties) T.a__law_ties cdv A outer s H E).w) (cxOf (L2N.CX P w) P w K mg base ["pool", "n", "pairs", "i", "j", "shape", "middle", "side", "rare", "pair", "k"] "_law_ties" (defScope s__law_ties) T.a__law_ties cdv A outer s H E).A (cxOf (L2N.CX P w) P w K mg base ["pool", "n", "pairs", "i", "j", "shape", "middle", "side", "rare", "pair", "k"] "_law_ties" (defScope s__law_ties) T.a__law_ties cdv A outer s H E).env (cxOf (L2N.CX P w) P w K mg base ["pool", "n", "pairs", "i", "j", "shape", "middle", "side", "rare", "pair", "k"] "_law_ties" (defScope s__law_ties) T.a__law_ties cdv A outer s H E).xe := passes_of rfl
  have hu : (A.deeper (PyProof.Rows.envOfC "_law_ties" (defScope s__law_ties) s.heap.objs.size T.a__law_ties cdv)).units + 64 < cLine := hr.units
  have hu5 : (A.deeper (PyProof.Rows.envOfC "_law_ties" (defScope s__law_ties) s.heap.objs.size T.a__law_ties cdv)).units + 65 < cLine := by have := hr.un; omega
  have nd : (["pool", "n", "pairs", "i", "j", "shape", "middle", "side", "rare", "pair", "k"] : List Str).Nodup := sc__law_ties.nd
  exact (sss_cons (ss_setF (i := 2) nd rfl (Or.inl rfl) (sf_lst sa_nil))
    (sss_cons (ss_for1 (js := [3]) hp rfl (si_range1 (by rfl) T.n_range (sa_cons (se_val (pv 1)) sa_nil)) (sg_name (i := 3) (by decide) (pg_name (i := 3) nd rfl (by first | exact Or.inl rfl | exact Or.inr rfl))) (sss_one (ss_for1 (js := [4]) hp rfl (si_range2 (by rfl) T.n_range (sa_cons (se_op op_addA sem_add (so_slot (pv 3)) (SE.so se_int)) (sa_cons (se_val (pv 1)) sa_nil))) (sg_name (i := 4) (by decide) (pg_name (i := 4) nd rfl (by first | exact Or.inl rfl | exact Or.inr rfl))) (sss_one (ss_expr (se_meth1 sem_app (pe_bm PySem.F.plainAttrs_list PySem.F.slot_list_append PySem.F.type_list_append mt_append (pv 2) (pa_cons (se_tup (sa_cons (se_val (pv 3)) (sa_cons (se_val (pv 4)) sa_nil))) pa_nil))))))))
    (sss_cons (ss_set (i := 5) nd rfl (Or.inl rfl) (se_call ((ok__law_take T).mono (by decide)) hr (by rfl) T.g__law_take T.F__law_take.kp T.b__law_take tk (sar_io (pv 0) (sar_d se_int sar_nil))))
    (sss_cons (ss_if (st_cmp (op_eqA hu) sem_eq (so_slot (pv 5)) (SE.so se_int) (nomark _)) (sss_one (ss_ret (se_callT1 call_tuple_of sem_tuple (by rfl) T.n_tuple (by decide +kernel) (so_slot (pv 2))))) sss_nil)
    (sss_cons (ss_if (st_cmp (op_eqA hu) sem_eq (so_slot (pv 5)) (SE.so se_int) (nomark _)) (sss_one (ss_ret (se_callT1 call_tuple_of sem_tuple (by rfl) T.n_tuple (by decide +kernel) (SE.so (SF.se (sf_comp (own := [("pair", 9)]) rfl nd  (si_seq (se_val (pv 2))) (blkOk_by (own := [("pair", 9)]) (N := ["pool", "n", "pairs", "i", "j", "shape", "middle", "side", "rare", "pair", "k"]) (sc := defScope s__law_ties) (by decide +kernel)) (fun _ _ _ _ _ => (sg_name (i := 9) (by decide) (pg_name (i := 9) nd rfl (by first | exact Or.inl rfl | exact Or.inr rfl)))) (fun _ _ _ _ _ => (spts_one (SW.st (sw_or (st_cmp (op_eqA hu) sem_eq (SE.so (se_ix (so_slot (pv 9)) (SE.so se_int) (fun _ _ => rfl))) (SE.so (se_op op_addA sem_add (SE.so (se_ix (so_slot (pv 9)) (SE.so se_int) (fun _ _ => rfl))) (SE.so se_int))) (nomark _)) (sw_or1 (st_cmp (op_eqA hu) sem_eq (so_slot (pv 9)) (SE.so (se_tup (sa_cons se_int (sa_cons (se_op op_sub sem_sub (so_slot (pv 1)) (SE.so se_int)) sa_nil)))) (nomark _))))))) (fun _ _ _ _ _ => (se_val (pv 9))))))))) sss_nil)
    (sss_cons (ss_if (st_cmp (op_eqA hu) sem_eq (so_slot (pv 5)) (SE.so se_int) (nomark _)) (sss_cons (ss_set (i := 6) nd rfl (Or.inr rfl) (se_call ((ok__law_take T).mono (by decide)) hr (by rfl) T.g__law_take T.F__law_take.kp T.b__law_take tk (sar_io (pv 0) (sar_d (se_val (pv 1)) sar_nil))))
    (sss_one (ss_ret (se_callT1 call_tuple_of sem_tuple (by rfl) T.n_tuple (by decide +kernel) (SE.so (SF.se (sf_comp (own := [("pair", 9)]) rfl nd  (si_seq (se_val (pv 2))) (blkOk_by (own := [("pair", 9)]) (N := ["pool", "n", "pairs", "i", "j", "shape", "middle", "side", "rare", "pair", "k"]) (sc := defScope s__law_ties) (by decide +kernel)) (fun _ _ _ _ _ => (sg_name (i := 9) (by decide) (pg_name (i := 9) nd rfl (by first | exact Or.inl rfl | exact Or.inr rfl)))) (fun _ _ _ _ _ => (spts_one (st_cmp (op_inA hu5) sem_in (so_slot (pv 6)) (so_slot (pv 9)) (by rfl)))) (fun _ _ _ _ _ => (se_val (pv 9)))))))))) sss_nil)
    (sss_cons (ss_if (st_cmp (op_eqA hu) sem_eq (so_slot (pv 5)) (SE.so se_int) (nomark _)) (sss_cons (ss_set (i := 7) nd rfl (Or.inr rfl) (SF.se (sf_comp (own := [("k", 10)]) rfl nd  (si_range1 (by rfl) T.n_range (sa_cons (se_val (pv 1)) sa_nil)) (blkOk_by (own := [("k", 10)]) (N := ["pool", "n", "pairs", "i", "j", "shape", "middle", "side", "rare", "pair", "k"]) (sc := defScope s__law_ties) (by decide +kernel)) (fun _ _ _ _ _ => (sg_name (i := 10) (by decide) (pg_name (i := 10) nd rfl (by first | exact Or.inl rfl | exact Or.inr rfl)))) (fun _ _ _ _ _ => spts_nil) (fun _ _ _ _ _ => (fun (tk1 : L2N.Takes _ W0) => (se_call ((ok__law_take T).mono (by decide)) hr (by rfl) T.g__law_take T.F__law_take.kp T.b__law_take tk1 (sar_io (pv 0) (sar_d se_int sar_nil)))) takesN))))
    (sss_one (ss_setLc (own := [("pair", 9)]) (i := 2) rfl nd rfl rfl (sw_true rfl rfl rfl (by decide +kernel)) (si_seq (se_val (pv 2))) (blkOk_by (own := [("pair", 9)]) (N := ["pool", "n", "pairs", "i", "j", "shape", "middle", "side", "rare", "pair", "k"]) (sc := defScope s__law_ties) (by decide +kernel)) (fun _ _ _ _ _ => (sg_name (i := 9) (by decide) (pg_name (i := 9) nd rfl (by first | exact Or.inl rfl | exact Or.inr rfl)))) (fun _ _ _ _ _ => (spts_one (st_cmp (op_eqA hu) sem_eq (SE.so (se_ix (so_slot (pv 7)) (SE.so (se_ix (so_slot (pv 9)) (SE.so se_int) (fun _ _ => rfl))) (fun _ _ => rfl))) (SE.so (se_ix (so_slot (pv 7)) (SE.so (se_ix (so_slot (pv 9)) (SE.so se_int) (fun _ _ => rfl))) (fun _ _ => rfl))) (nomark _)))) (fun _ _ _ _ _ => (se_val (pv 9)))))) sss_nil)
    (sss_cons (ss_set (i := 8) nd rfl (Or.inr rfl) (se_op op_addA sem_add (SE.so se_int) (SE.so (se_call ((ok__law_take T).mono (by decide)) hr (by rfl) T.g__law_take T.F__law_take.kp T.b__law_take tk (sar_io (pv 0) (sar_d se_int sar_nil))))))
    (sss_one (ss_ret (se_callT1 call_tuple_of sem_tuple (by rfl) T.n_tuple (by decide +kernel) (SE.so (SF.se (sf_comp (own := [("pair", 9)]) rfl nd  (si_seq (se_val (pv 2))) (blkOk_by (own := [("pair", 9)]) (N := ["pool", "n", "pairs", "i", "j", "shape", "middle", "side", "rare", "pair", "k"]) (sc := defScope s__law_ties) (by decide +kernel)) (fun _ _ _ _ _ => (sg_name (i := 9) (by decide) (pg_name (i := 9) nd rfl (by first | exact Or.inl rfl | exact Or.inr rfl)))) (fun _ _ _ _ _ => (fun (tk1 : L2N.Takes _ W0) => (spts_one (st_cmp (op_eqA hu) sem_eq (SE.so (se_call ((ok__law_take T).mono (by decide)) hr (by rfl) T.g__law_take T.F__law_take.kp T.b__law_take tk1 (sar_io (pv 0) (sar_d (se_val (pv 8)) sar_nil)))) (SE.so se_int) (nomark _)))) takesN) (fun _ _ _ _ _ => (se_val (pv 9))))))))))))))))))
theorem sc__law_words : FnScope ["ties", "coins", "secrets", "words", "k"] ["ties", "coins", "secrets"] (defScope s__law_words) := ⟨rfl, rfl, rfl, by decide +kernel, rfl, by decide +kernel, by decide +kernel⟩
def b__law_words : M Z.Flow :=
  mseq (msetF 3 (mop1F listD (.slot 2)))
  (mseq (mforS (mrng rng1 (mcons (mop1 lenD (.slot 0)) (mpure []))) (gnm 4) (mseq (msetIx 3 (mop2 idxD (.val (mop2 idxD (.slot 0) (.slot 4))) (.val (mpure (.int 0)))) (mop2 xorD (.val (mop2 idxD (.slot 3) (.val (mop2 idxD (.val (mop2 idxD (.slot 0) (.slot 4))) (.val (mpure (.int 0))))))) (.val (mop2 idxD (.slot 1) (.slot 4)))))
  (msetIx 3 (mop2 idxD (.val (mop2 idxD (.slot 0) (.slot 4))) (.val (mpure (.int 1)))) (mop2 xorD (.val (mop2 idxD (.slot 3) (.val (mop2 idxD (.val (mop2 idxD (.slot 0) (.slot 4))) (.val (mpure (.int 1))))))) (.val (mop2 idxD (.slot 1) (.slot 4)))))))
  (mret (mval 3)))
def m__law_words : Fn := runBody 5 b__law_words
theorem ok__law_words (T : Txt P K mg) : FnOk P w K mg base (L2N.CX P w) 1 T.a__law_words T.fd__law_words ["ties", "coins", "secrets"] (spM K mg 3 m__law_words) :=
  fn_ok (k := 0) T.F__law_words sc__law_words (fun cdv A outer s H E hr => by
  have tk : L2N.Takes (cxOf (L2N.CX P w) P w K mg base ["ties", "coins", "secrets", "words", "k"] "_law_words" (defScope s__law_words) T.a__law_words cdv A outer s H E) (fun cls d _ H => E cls d H) := L2N.takes_of rfl rfl rfl rfl
  have hp : PassesOwn (model (cxOf (L2N.CX P w) P w K mg base ["ties", "coins", "secrets", "words", "k"] "_law_words" (defScope s__law_words) T.a__law_words cdv A outer s H E).prog (cxOf (L2N.CX P w) P w K mg base ["ties", "coins", "secrets", "words", "k"] "_law_words" (defScope s__law_words) T.a__law_words cdv A outer s H E).w) (cxOf (L2N.CX P w) P w K mg base ["ties", "coins", "secrets", "words", "k"] "_law_words" (defScope s__law_words) T.a__law_words cdv A outer s H E).A (cxOf (L2N.CX P w) P w K mg base ["ties", "coins", "secrets", "words", "k"] "_law_words" (defScope s__law_words) T.a__law_words cdv A outer s H E).env (cxOf (L2N.CX P w) P w K mg base ["ties", "coins", "secrets", "words", "k"] "_law_words" (defScope s__law_words) T.a__law_words cdv A outer s H E).xe := passes_of rfl
  have hu : (A.deeper (PyProof.Rows.envOfC "_law_words" (defScope s__law_words) s.heap.objs.size T.a__law_words cdv)).units + 64 < cLine := hr.units
  have hu5 : (A.deeper (PyProof.Rows.envOfC "_law_words" (defScope s__law_words) s.heap.objs.size T.a__law_words cdv)).units + 65 < cLine := by have := hr.un; omega
  have nd : (["ties", "coins", "secrets", "words", "k"] : List Str).Nodup := sc__law_words.nd
  exact (sss_cons (ss_setF (i := 3) nd rfl (Or.inl rfl) (sf_callT1 call_list_of sem_list (by rfl) T.n_list (by decide +kernel) (so_slot (pv 2))))
    (sss_cons (ss_for1 (js := [4]) hp rfl (si_range1 (by rfl) T.n_range (sa_cons (se_callB1 call_len sem_len (by rfl) T.n_len (by decide +kernel) (so_slot (pv 0))) sa_nil)) (sg_name (i := 4) (by decide) (pg_name (i := 4) nd rfl (by first | exact Or.inl rfl | exact Or.inr rfl))) (sss_cons (ss_setIx (i := 3) (pv 3) (se_ix (SE.so (se_ix (so_slot (pv 0)) (so_slot (pv 4)) (fun _ _ => rfl))) (SE.so se_int) (fun _ _ => rfl)) (se_op op_xor sem_xor (SE.so (se_ix (so_slot (pv 3)) (SE.so (se_ix (SE.so (se_ix (so_slot (pv 0)) (so_slot (pv 4)) (fun _ _ => rfl))) (SE.so se_int) (fun _ _ => rfl))) (fun _ _ => rfl))) (SE.so (se_ix (so_slot (pv 1)) (so_slot (pv 4)) (fun _ _ => rfl)))))
    (sss_one (ss_setIx (i := 3) (pv 3) (se_ix (SE.so (se_ix (so_slot (pv 0)) (so_slot (pv 4)) (fun _ _ => rfl))) (SE.so se_int) (fun _ _ => rfl)) (se_op op_xor sem_xor (SE.so (se_ix (so_slot (pv 3)) (SE.so (se_ix (SE.so (se_ix (so_slot (pv 0)) (so_slot (pv 4)) (fun _ _ => rfl))) (SE.so se_int) (fun _ _ => rfl))) (fun _ _ => rfl))) (SE.so (se_ix (so_slot (pv 1)) (so_slot (pv 4)) (fun _ _ => rfl))))))))
    (sss_one (ss_ret (se_val (pv 3)))))))
theorem sc__law_said_fits : FnScope ["pool", "n", "ties", "coins", "secrets", "words", "handed", "kept", "found", "total"] ["pool", "n", "ties", "coins", "secrets"] (defScope s__law_said_fits) := ⟨rfl, rfl, rfl, by decide +kernel, rfl, by decide +kernel, by decide +kernel⟩
def b__law_said_fits : M Z.Flow :=
  mseq (mset 5 (mcall m__law_words [.d (mval 2), .d (mval 3), .d (mval 4)]))
  (mseq (mset 6 (mbind (mop1F listD (.slot 3)) fun ds => mpure (.lst ds)))
  (mseq (mset 7 (mbind (mop1F listD (.slot 4)) fun ds => mpure (.lst ds)))
  (mseq (mifS (mbool (mop2 eqD (.val (mcall m__law_take [.io 0, .d (mpure (.int 2))])) (.val (mpure (.int 0))))) (mseq (mset 8 (mcall m_said [.d (mval 1), .d (mval 2), .d (mval 6), .d (mval 7)]))
  (mset 9 (mcall m_sum_said [.d (mval 1), .d (mval 2), .d (mop1 tupleD (.slot 3)), .d (mval 7)]))) (mseq (mset 8 (mcall m_said [.d (mval 1), .d (mval 2), .d (mop1 tupleD (.slot 3)), .d (mval 7)]))
  (mset 9 (mcall m_sum_said [.d (mval 1), .d (mval 2), .d (mval 6), .d (mop1 tupleD (.slot 4))]))))
  (mseq (mifS (mor (mbool (mop2 neD (.slot 6) (.slot 3))) (mor (mbool (mop2 neD (.slot 7) (.slot 4))) (mbool (mop2 neD (.val (mop2 modD (.val (mop1 intD (.val (mop1 sumD (.slot 5))))) (.val (mpure (.int 2))))) (.val (mop2 modD (.val (mop1 intD (.val (mop1 sumD (.slot 4))))) (.val (mpure (.int 2))))))))) (mret (mpure (.bl false))) (mnx))
  (mret (mandV (mcall (m__law_same 10) [.d (mval 8), .d (mop1 tupleD (.slot 5))]) (mcall (m__law_same 10) [.d (mval 9), .d (mop2 modD (.val (mop1 intD (.val (mop1 sumD (.slot 4))))) (.val (mpure (.int 2))))])))))))
def m__law_said_fits : Fn := runBody 10 b__law_said_fits
theorem ok__law_said_fits (T : Txt P K mg) : FnOk P w K mg base (L2N.CX P w) 11 T.a__law_said_fits T.fd__law_said_fits ["pool", "n", "ties", "coins", "secrets"] (spM K mg 5 m__law_said_fits) :=
  fn_ok (k := 10) T.F__law_said_fits sc__law_said_fits (fun cdv A outer s H E hr => by
  have tk : L2N.Takes (cxOf (L2N.CX P w) P w K mg base ["pool", "n", "ties", "coins", "secrets", "words", "handed", "kept", "found", "total"] "_law_said_fits" (defScope s__law_said_fits) T.a__law_said_fits cdv A outer s H E) (fun cls d _ H => E cls d H) := L2N.takes_of rfl rfl rfl rfl
  have hp : PassesOwn (model (cxOf (L2N.CX P w) P w K mg base ["pool", "n", "ties", "coins", "secrets", "words", "handed", "kept", "found", "total"] "_law_said_fits" (defScope s__law_said_fits) T.a__law_said_fits cdv A outer s H E).prog (cxOf (L2N.CX P w) P w K mg base ["pool", "n", "ties", "coins", "secrets", "words", "handed", "kept", "found", "total"] "_law_said_fits" (defScope s__law_said_fits) T.a__law_said_fits cdv A outer s H E).w) (cxOf (L2N.CX P w) P w K mg base ["pool", "n", "ties", "coins", "secrets", "words", "handed", "kept", "found", "total"] "_law_said_fits" (defScope s__law_said_fits) T.a__law_said_fits cdv A outer s H E).A (cxOf (L2N.CX P w) P w K mg base ["pool", "n", "ties", "coins", "secrets", "words", "handed", "kept", "found", "total"] "_law_said_fits" (defScope s__law_said_fits) T.a__law_said_fits cdv A outer s H E).env (cxOf (L2N.CX P w) P w K mg base ["pool", "n", "ties", "coins", "secrets", "words", "handed", "kept", "found", "total"] "_law_said_fits" (defScope s__law_said_fits) T.a__law_said_fits cdv A outer s H E).xe := passes_of rfl
  have hu : (A.deeper (PyProof.Rows.envOfC "_law_said_fits" (defScope s__law_said_fits) s.heap.objs.size T.a__law_said_fits cdv)).units + 64 < cLine := hr.units
  have hu5 : (A.deeper (PyProof.Rows.envOfC "_law_said_fits" (defScope s__law_said_fits) s.heap.objs.size T.a__law_said_fits cdv)).units + 65 < cLine := by have := hr.un; omega
  have nd : (["pool", "n", "ties", "coins", "secrets", "words", "handed", "kept", "found", "total"] : List Str).Nodup := sc__law_said_fits.nd
  exact (sss_cons (ss_set (i := 5) nd rfl (Or.inl rfl) (se_call ((ok__law_words T).mono (by decide)) hr (by rfl) T.g__law_words T.F__law_words.kp T.b__law_words tk (sar_d (se_val (pv 2)) (sar_d (se_val (pv 3)) (sar_d (se_val (pv 4)) sar_nil)))))
    (sss_cons (ss_set (i := 6) nd rfl (Or.inl rfl) (SF.se (sf_callT1 call_list_of sem_list (by rfl) T.n_list (by decide +kernel) (so_slot (pv 3)))))
    (sss_cons (ss_set (i := 7) nd rfl (Or.inl rfl) (SF.se (sf_callT1 call_list_of sem_list (by rfl) T.n_list (by decide +kernel) (so_slot (pv 4)))))
    (sss_cons (ss_if (st_cmp (op_eqA hu) sem_eq (SE.so (se_call ((ok__law_take T).mono (by decide)) hr (by rfl) T.g__law_take T.F__law_take.kp T.b__law_take tk (sar_io (pv 0) (sar_d se_int sar_nil)))) (SE.so se_int) (nomark _)) (sss_cons (ss_set (i := 8) nd rfl (Or.inl rfl) (se_call ((ok_said T).mono (by decide)) hr (by rfl) T.g_said T.F_said.kp T.b_said tk (sar_d (se_val (pv 1)) (sar_d (se_val (pv 2)) (sar_d (se_val (pv 6)) (sar_d (se_val (pv 7)) sar_nil))))))
    (sss_one (ss_set (i := 9) nd rfl (Or.inl rfl) (se_call ((ok_sum_said T).mono (by decide)) hr (by rfl) T.g_sum_said T.F_sum_said.kp T.b_sum_said tk (sar_d (se_val (pv 1)) (sar_d (se_val (pv 2)) (sar_d (se_callT1 call_tuple_of sem_tuple (by rfl) T.n_tuple (by decide +kernel) (so_slot (pv 3))) (sar_d (se_val (pv 7)) sar_nil)))))))) (sss_cons (ss_set (i := 8) nd rfl (Or.inl rfl) (se_call ((ok_said T).mono (by decide)) hr (by rfl) T.g_said T.F_said.kp T.b_said tk (sar_d (se_val (pv 1)) (sar_d (se_val (pv 2)) (sar_d (se_callT1 call_tuple_of sem_tuple (by rfl) T.n_tuple (by decide +kernel) (so_slot (pv 3))) (sar_d (se_val (pv 7)) sar_nil))))))
    (sss_one (ss_set (i := 9) nd rfl (Or.inl rfl) (se_call ((ok_sum_said T).mono (by decide)) hr (by rfl) T.g_sum_said T.F_sum_said.kp T.b_sum_said tk (sar_d (se_val (pv 1)) (sar_d (se_val (pv 2)) (sar_d (se_val (pv 6)) (sar_d (se_callT1 call_tuple_of sem_tuple (by rfl) T.n_tuple (by decide +kernel) (so_slot (pv 4))) sar_nil)))))))))
    (sss_cons (ss_if (SW.st (sw_or (st_cmp (op_neA hu) sem_ne (so_slot (pv 6)) (so_slot (pv 3)) (nomark _)) (sw_or (st_cmp (op_neA hu) sem_ne (so_slot (pv 7)) (so_slot (pv 4)) (nomark _)) (sw_or1 (st_cmp (op_neA hu) sem_ne (SE.so (se_op op_mod sem_mod (SE.so (se_callT1 call_int1 sem_int (by rfl) T.n_int (by decide +kernel) (SE.so (se_callB1 (cr_sum rfl) sem_sum (by rfl) T.n_sum (by decide +kernel) (so_slot (pv 5)))))) (SE.so se_int))) (SE.so (se_op op_mod sem_mod (SE.so (se_callT1 call_int1 sem_int (by rfl) T.n_int (by decide +kernel) (SE.so (se_callB1 (cr_sum rfl) sem_sum (by rfl) T.n_sum (by decide +kernel) (so_slot (pv 4)))))) (SE.so se_int))) (nomark _)))))) (sss_one (ss_ret se_bl)) sss_nil)
    (sss_one (ss_ret (se_and (se_call ((ok__law_same T 10).mono (by decide)) hr (by rfl) T.g__law_same T.F__law_same.kp T.b__law_same tk (sar_d (se_val (pv 8)) (sar_d (se_callT1 call_tuple_of sem_tuple (by rfl) T.n_tuple (by decide +kernel) (so_slot (pv 5))) sar_nil))) (se_one (se_call ((ok__law_same T 10).mono (by decide)) hr (by rfl) T.g__law_same T.F__law_same.kp T.b__law_same tk (sar_d (se_val (pv 9)) (sar_d (se_op op_mod sem_mod (SE.so (se_callT1 call_int1 sem_int (by rfl) T.n_int (by decide +kernel) (SE.so (se_callB1 (cr_sum rfl) sem_sum (by rfl) T.n_sum (by decide +kernel) (so_slot (pv 4)))))) (SE.so se_int)) sar_nil)))))))))))))
theorem sc__law_bad_number : FnScope ["pool"] ["pool"] (defScope s__law_bad_number) := ⟨rfl, rfl, rfl, by decide +kernel, rfl, by decide +kernel, by decide +kernel⟩
def b__law_bad_number : M Z.Flow :=
  mret (mop2 idxD (.val (mtup (mcons (mpure (.int 1)) (mcons (mpure (.int 7)) (mcons (mpure (.int 0)) (mcons (mpure (.bl true)) (mcons (mpure .non) (mcons (mpure (.str "3")) (mcons (mtup (mcons (mpure (.int 3)) (mpure []))) (mcons (mop2 subD (.val (mpure (.int 0))) (.val (mpure (.int 1)))) (mcons (mpure (.int 100000000000000000003)) (mpure [])))))))))))) (.val (mcall m__law_take [.io 0, .d (mpure (.int 9))])))
def m__law_bad_number : Fn := runBody 1 b__law_bad_number
theorem ok__law_bad_number (T : Txt P K mg) : FnOk P w K mg base (L2N.CX P w) 2 T.a__law_bad_number T.fd__law_bad_number ["pool"] (spM K mg 1 m__law_bad_number) :=
  fn_ok (k := 1) T.F__law_bad_number sc__law_bad_number (fun cdv A outer s H E hr => by
  have tk : L2N.Takes (cxOf (L2N.CX P w) P w K mg base ["pool"] "_law_bad_number" (defScope s__law_bad_number) T.a__law_bad_number cdv A outer s H E) (fun cls d _ H => E cls d H) := L2N.takes_of rfl rfl rfl rfl
  have hp : PassesOwn (model (cxOf (L2N.CX P w) P w K mg base ["pool"] "_law_bad_number" (defScope s__law_bad_number) T.a__law_bad_number cdv A outer s H E).prog (cxOf (L2N.CX P w) P w K mg base ["pool"] "_law_bad_number" (defScope s__law_bad_number) T.a__law_bad_number cdv A outer s H E).w) (cxOf (L2N.CX P w) P w K mg base ["pool"] "_law_bad_number" (defScope s__law_bad_number) T.a__law_bad_number cdv A outer s H E).A (cxOf (L2N.CX P w) P w K mg base ["pool"] "_law_bad_number" (defScope s__law_bad_number) T.a__law_bad_number cdv A outer s H E).env (cxOf (L2N.CX P w) P w K mg base ["pool"] "_law_bad_number" (defScope s__law_bad_number) T.a__law_bad_number cdv A outer s H E).xe := passes_of rfl
  have hu : (A.deeper (PyProof.Rows.envOfC "_law_bad_number" (defScope s__law_bad_number) s.heap.objs.size T.a__law_bad_number cdv)).units + 64 < cLine := hr.units
  have hu5 : (A.deeper (PyProof.Rows.envOfC "_law_bad_number" (defScope s__law_bad_number) s.heap.objs.size T.a__law_bad_number cdv)).units + 65 < cLine := by have := hr.un; omega
  have nd : (["pool"] : List Str).Nodup := sc__law_bad_number.nd
  exact (sss_one (ss_ret (se_ix (SE.so (se_tup (sa_cons se_int (sa_cons se_int (sa_cons se_int (sa_cons se_bl (sa_cons se_non (sa_cons se_str (sa_cons (se_tup (sa_cons se_int sa_nil)) (sa_cons (se_op op_sub sem_sub (SE.so se_int) (SE.so se_int)) (sa_cons se_int sa_nil))))))))))) (SE.so (se_call ((ok__law_take T).mono (by decide)) hr (by rfl) T.g__law_take T.F__law_take.kp T.b__law_take tk (sar_io (pv 0) (sar_d se_int sar_nil)))) (fun _ _ => rfl)))))
theorem sc__law_bad_pair : FnScope ["pool", "n", "one", "other", "kind"] ["pool", "n", "one", "other"] (defScope s__law_bad_pair) := ⟨rfl, rfl, rfl, by decide +kernel, rfl, by decide +kernel, by decide +kernel⟩
def b__law_bad_pair : M Z.Flow :=
  mseq (mset 4 (mcall m__law_take [.io 0, .d (mpure (.int 12))]))
  (mseq (mifS (mbool (mop2 ltD (.slot 4) (.val (mpure (.int 4))))) (mret (mop2 idxD (.val (mtup (mcons (mtup (mcons (mval 3) (mcons (mval 2) (mpure [])))) (mcons (mtup (mcons (mval 2) (mcons (mval 2) (mpure [])))) (mcons (mtup (mcons (mval 2) (mcons (mval 1) (mpure [])))) (mcons (mtup (mcons (mop2 subD (.val (mpure (.int 0))) (.val (mpure (.int 1)))) (mcons (mval 3) (mpure [])))) (mpure []))))))) (.slot 4))) (mnx))
  (mseq (mifS (mbool (mop2 ltD (.slot 4) (.val (mpure (.int 8))))) (mret (mop2 idxD (.val (mtup (mcons (mtup (mcons (mval 2) (mcons (mval 3) (mcons (mval 3) (mpure []))))) (mcons (mtup (mcons (mval 2) (mpure []))) (mcons (mbind (mlst (mcons (mval 2) (mcons (mval 3) (mpure [])))) fun ds => mpure (.lst ds)) (mcons (mtup (mcons (mpure (.bl false)) (mcons (mval 3) (mpure [])))) (mpure []))))))) (.val (mop2 subD (.slot 4) (.val (mpure (.int 4))))))) (mnx))
  (mret (mop2 idxD (.val (mtup (mcons (mpure .non) (mcons (mpure (.str "01")) (mcons (mtup (mcons (mval 2) (mcons (mop1 strD (.slot 3)) (mpure [])))) (mcons (mtup (mcons (mval 2) (mcons (mpure (.int 100000000000000000000)) (mpure [])))) (mpure []))))))) (.val (mop2 subD (.slot 4) (.val (mpure (.int 8)))))))))
def m__law_bad_pair : Fn := runBody 5 b__law_bad_pair
theorem ok__law_bad_pair (T : Txt P K mg) : FnOk P w K mg base (L2N.CX P w) 2 T.a__law_bad_pair T.fd__law_bad_pair ["pool", "n", "one", "other"] (spM K mg 4 m__law_bad_pair) :=
  fn_ok (k := 1) T.F__law_bad_pair sc__law_bad_pair (fun cdv A outer s H E hr => by
  have tk : L2N.Takes (cxOf (L2N.CX P w) P w K mg base ["pool", "n", "one", "other", "kind"] "_law_bad_pair" (defScope s__law_bad_pair) T.a__law_bad_pair cdv A outer s H E) (fun cls d _ H => E cls d H) := L2N.takes_of rfl rfl rfl rfl
  have hp : PassesOwn (model (cxOf (L2N.CX P w) P w K mg base ["pool", "n", "one", "other", "kind"] "_law_bad_pair" (defScope s__law_bad_pair) T.a__law_bad_pair cdv A outer s H E).prog (cxOf (L2N.CX P w) P w K mg base ["pool", "n", "one", "other", "kind"] "_law_bad_pair" (defScope s__law_bad_pair) T.a__law_bad_pair cdv A outer s H E).w) (cxOf (L2N.CX P w) P w K mg base ["pool", "n", "one", "other", "kind"] "_law_bad_pair" (defScope s__law_bad_pair) T.a__law_bad_pair cdv A outer s H E).A (cxOf (L2N.CX P w) P w K mg base ["pool", "n", "one", "other", "kind"] "_law_bad_pair" (defScope s__law_bad_pair) T.a__law_bad_pair cdv A outer s H E).env (cxOf (L2N.CX P w) P w K mg base ["pool", "n", "one", "other", "kind"] "_law_bad_pair" (defScope s__law_bad_pair) T.a__law_bad_pair cdv A outer s H E).xe := passes_of rfl
  have hu : (A.deeper (PyProof.Rows.envOfC "_law_bad_pair" (defScope s__law_bad_pair) s.heap.objs.size T.a__law_bad_pair cdv)).units + 64 < cLine := hr.units
  have hu5 : (A.deeper (PyProof.Rows.envOfC "_law_bad_pair" (defScope s__law_bad_pair) s.heap.objs.size T.a__law_bad_pair cdv)).units + 65 < cLine := by have := hr.un; omega
  have nd : (["pool", "n", "one", "other", "kind"] : List Str).Nodup := sc__law_bad_pair.nd
  exact (sss_cons (ss_set (i := 4) nd rfl (Or.inl rfl) (se_call ((ok__law_take T).mono (by decide)) hr (by rfl) T.g__law_take T.F__law_take.kp T.b__law_take tk (sar_io (pv 0) (sar_d se_int sar_nil))))
    (sss_cons (ss_if (st_cmp op_lt sem_lt (so_slot (pv 4)) (SE.so se_int) (nomark _)) (sss_one (ss_ret (se_ix (SE.so (se_tup (sa_cons (se_tup (sa_cons (se_val (pv 3)) (sa_cons (se_val (pv 2)) sa_nil))) (sa_cons (se_tup (sa_cons (se_val (pv 2)) (sa_cons (se_val (pv 2)) sa_nil))) (sa_cons (se_tup (sa_cons (se_val (pv 2)) (sa_cons (se_val (pv 1)) sa_nil))) (sa_cons (se_tup (sa_cons (se_op op_sub sem_sub (SE.so se_int) (SE.so se_int)) (sa_cons (se_val (pv 3)) sa_nil))) sa_nil)))))) (so_slot (pv 4)) (fun _ _ => rfl)))) sss_nil)
    (sss_cons (ss_if (st_cmp op_lt sem_lt (so_slot (pv 4)) (SE.so se_int) (nomark _)) (sss_one (ss_ret (se_ix (SE.so (se_tup (sa_cons (se_tup (sa_cons (se_val (pv 2)) (sa_cons (se_val (pv 3)) (sa_cons (se_val (pv 3)) sa_nil)))) (sa_cons (se_tup (sa_cons (se_val (pv 2)) sa_nil)) (sa_cons (SF.se (sf_lst (sa_cons (se_val (pv 2)) (sa_cons (se_val (pv 3)) sa_nil)))) (sa_cons (se_tup (sa_cons se_bl (sa_cons (se_val (pv 3)) sa_nil))) sa_nil)))))) (SE.so (se_op op_sub sem_sub (so_slot (pv 4)) (SE.so se_int))) (fun _ _ => rfl)))) sss_nil)
    (sss_one (ss_ret (se_ix (SE.so (se_tup (sa_cons se_non (sa_cons se_str (sa_cons (se_tup (sa_cons (se_val (pv 2)) (sa_cons (se_callT1 call_str_int sem_str (by rfl) T.n_str (by decide +kernel) (so_slot (pv 3))) sa_nil))) (sa_cons (se_tup (sa_cons (se_val (pv 2)) (sa_cons se_int sa_nil))) sa_nil)))))) (SE.so (se_op op_sub sem_sub (so_slot (pv 4)) (SE.so se_int))) (fun _ _ => rfl))))))))
theorem sc__law_bad_ties : FnScope ["pool", "n", "ties", "kind", "at", "bad"] ["pool", "n", "ties"] (defScope s__law_bad_ties) := ⟨rfl, rfl, rfl, by decide +kernel, rfl, by decide +kernel, by decide +kernel⟩
def b__law_bad_ties : M Z.Flow :=
  mseq (mset 3 (mcall m__law_take [.io 0, .d (mpure (.int 12))]))
  (mseq (mifS (mbool (mop2 eqD (.slot 3) (.val (mpure (.int 0))))) (mret (mbind (mop1F listD (.slot 2)) fun ds => mpure (.lst ds))) (mnx))
  (mseq (mifS (mbool (mop2 eqD (.slot 3) (.val (mpure (.int 1))))) (mret (mpure .non)) (mnx))
  (mseq (mifS (mbool (mop2 eqD (.slot 3) (.val (mpure (.int 2))))) (mret (mpure (.str ""))) (mnx))
  (mseq (mifS (mbool (mop2 eqD (.val (mop1 lenD (.slot 2))) (.val (mpure (.int 0))))) (mret (mtup (mcons (mcall m__law_bad_pair [.io 0, .d (mval 1), .d (mpure (.int 0)), .d (mpure (.int 1))]) (mpure [])))) (mnx))
  (mseq (mset 4 (mcall m__law_take [.io 0, .d (mop1 lenD (.slot 2))]))
  (mseq (mifS (mbool (mop2 ltD (.slot 3) (.val (mpure (.int 5))))) (mret (mop2 addD (.val (mop2 addD (.val (mcut (.slot 2) (mpure none) (mbind (mval 4) fun x => mbind (mopt (toI x)) fun i => mpure (some i)))) (.val (mtup (mcons (mop2 idxD (.slot 2) (.slot 4)) (mpure [])))))) (.val (mcut (.slot 2) (mbind (mval 4) fun x => mbind (mopt (toI x)) fun i => mpure (some i)) (mpure none))))) (mnx))
  (mseq (mifS (mand (mbool (mop2 ltD (.slot 3) (.val (mpure (.int 7))))) (mbool (mop2 gtD (.val (mop1 lenD (.slot 2))) (.val (mpure (.int 1)))))) (mseq (mset 4 (mcall m__law_take [.io 0, .d (mop2 subD (.val (mop1 lenD (.slot 2))) (.val (mpure (.int 1))))]))
  (mret (mop2 addD (.val (mop2 addD (.val (mcut (.slot 2) (mpure none) (mbind (mval 4) fun x => mbind (mopt (toI x)) fun i => mpure (some i)))) (.val (mtup (mcons (mop2 idxD (.slot 2) (.val (mop2 addD (.slot 4) (.val (mpure (.int 1)))))) (mcons (mop2 idxD (.slot 2) (.slot 4)) (mpure []))))))) (.val (mcut (.slot 2) (mbind (mop2 addD (.slot 4) (.val (mpure (.int 2)))) fun x => mbind (mopt (toI x)) fun i => mpure (some i)) (mpure none)))))) (mnx))
  (mseq (mset 5 (mcall m__law_bad_pair [.io 0, .d (mval 1), .d (mop2 idxD (.val (mop2 idxD (.slot 2) (.slot 4))) (.val (mpure (.int 0)))), .d (mop2 idxD (.val (mop2 idxD (.slot 2) (.slot 4))) (.val (mpure (.int 1))))]))
  (mret (mop2 addD (.val (mop2 addD (.val (mcut (.slot 2) (mpure none) (mbind (mval 4) fun x => mbind (mopt (toI x)) fun i => mpure (some i)))) (.val (mtup (mcons (mval 5) (mpure [])))))) (.val (mcut (.slot 2) (mbind (mop2 addD (.slot 4) (.val (mpure (.int 1)))) fun x => mbind (mopt (toI x)) fun i => mpure (some i)) (mpure none)))))))))))))
def m__law_bad_ties : Fn := runBody 6 b__law_bad_ties
theorem ok__law_bad_ties (T : Txt P K mg) : FnOk P w K mg base (L2N.CX P w) 3 T.a__law_bad_ties T.fd__law_bad_ties ["pool", "n", "ties"] (spM K mg 3 m__law_bad_ties) :=
  fn_ok (k := 2) T.F__law_bad_ties sc__law_bad_ties (fun cdv A outer s H E hr => by
  have tk : L2N.Takes (cxOf (L2N.CX P w) P w K mg base ["pool", "n", "ties", "kind", "at", "bad"] "_law_bad_ties" (defScope s__law_bad_ties) T.a__law_bad_ties cdv A outer s H E) (fun cls d _ H => E cls d H) := L2N.takes_of rfl rfl rfl rfl
  have hp : PassesOwn (model (cxOf (L2N.CX P w) P w K mg base ["pool", "n", "ties", "kind", "at", "bad"] "_law_bad_ties" (defScope s__law_bad_ties) T.a__law_bad_ties cdv A outer s H E).prog (cxOf (L2N.CX P w) P w K mg base ["pool", "n", "ties", "kind", "at", "bad"] "_law_bad_ties" (defScope s__law_bad_ties) T.a__law_bad_ties cdv A outer s H E).w) (cxOf (L2N.CX P w) P w K mg base ["pool", "n", "ties", "kind", "at", "bad"] "_law_bad_ties" (defScope s__law_bad_ties) T.a__law_bad_ties cdv A outer s H E).A (cxOf (L2N.CX P w) P w K mg base ["pool", "n", "ties", "kind", "at", "bad"] "_law_bad_ties" (defScope s__law_bad_ties) T.a__law_bad_ties cdv A outer s H E).env (cxOf (L2N.CX P w) P w K mg base ["pool", "n", "ties", "kind", "at", "bad"] "_law_bad_ties" (defScope s__law_bad_ties) T.a__law_bad_ties cdv A outer s H E).xe := passes_of rfl
  have hu : (A.deeper (PyProof.Rows.envOfC "_law_bad_ties" (defScope s__law_bad_ties) s.heap.objs.size T.a__law_bad_ties cdv)).units + 64 < cLine := hr.units
  have hu5 : (A.deeper (PyProof.Rows.envOfC "_law_bad_ties" (defScope s__law_bad_ties) s.heap.objs.size T.a__law_bad_ties cdv)).units + 65 < cLine := by have := hr.un; omega
  have nd : (["pool", "n", "ties", "kind", "at", "bad"] : List Str).Nodup := sc__law_bad_ties.nd
  exact (sss_cons (ss_set (i := 3) nd rfl (Or.inl rfl) (se_call ((ok__law_take T).mono (by decide)) hr (by rfl) T.g__law_take T.F__law_take.kp T.b__law_take tk (sar_io (pv 0) (sar_d se_int sar_nil))))
    (sss_cons (ss_if (st_cmp (op_eqA hu) sem_eq (so_slot (pv 3)) (SE.so se_int) (nomark _)) (sss_one (ss_ret (SF.se (sf_callT1 call_list_of sem_list (by rfl) T.n_list (by decide +kernel) (so_slot (pv 2)))))) sss_nil)
    (sss_cons (ss_if (st_cmp (op_eqA hu) sem_eq (so_slot (pv 3)) (SE.so se_int) (nomark _)) (sss_one (ss_ret se_non)) sss_nil)
    (sss_cons (ss_if (st_cmp (op_eqA hu) sem_eq (so_slot (pv 3)) (SE.so se_int) (nomark _)) (sss_one (ss_ret se_str)) sss_nil)
    (sss_cons (ss_if (st_cmp (op_eqA hu) sem_eq (SE.so (se_callB1 call_len sem_len (by rfl) T.n_len (by decide +kernel) (so_slot (pv 2)))) (SE.so se_int) (nomark _)) (sss_one (ss_ret (se_tup (sa_cons (se_call ((ok__law_bad_pair T).mono (by decide)) hr (by rfl) T.g__law_bad_pair T.F__law_bad_pair.kp T.b__law_bad_pair tk (sar_io (pv 0) (sar_d (se_val (pv 1)) (sar_d se_int (sar_d se_int sar_nil))))) sa_nil)))) sss_nil)
    (sss_cons (ss_set (i := 4) nd rfl (Or.inl rfl) (se_call ((ok__law_take T).mono (by decide)) hr (by rfl) T.g__law_take T.F__law_take.kp T.b__law_take tk (sar_io (pv 0) (sar_d (se_callB1 call_len sem_len (by rfl) T.n_len (by decide +kernel) (so_slot (pv 2))) sar_nil))))
    (sss_cons (ss_if (st_cmp op_lt sem_lt (so_slot (pv 3)) (SE.so se_int) (nomark _)) (sss_one (ss_ret (se_op op_addA sem_add (SE.so (se_op op_addA sem_add (SE.so (se_cut (so_slot (pv 2)) spo_none (spo_some (se_val (pv 4))))) (SE.so (se_tup (sa_cons (se_ix (so_slot (pv 2)) (so_slot (pv 4)) (fun _ _ => rfl)) sa_nil))))) (SE.so (se_cut (so_slot (pv 2)) (spo_some (se_val (pv 4))) spo_none))))) sss_nil)
    (sss_cons (ss_if (SW.st (sw_and (st_cmp op_lt sem_lt (so_slot (pv 3)) (SE.so se_int) (nomark _)) (sw_and1 (st_cmp op_gt sem_gt (SE.so (se_callB1 call_len sem_len (by rfl) T.n_len (by decide +kernel) (so_slot (pv 2)))) (SE.so se_int) (nomark _))))) (sss_cons (ss_set (i := 4) nd rfl (Or.inl rfl) (se_call ((ok__law_take T).mono (by decide)) hr (by rfl) T.g__law_take T.F__law_take.kp T.b__law_take tk (sar_io (pv 0) (sar_d (se_op op_sub sem_sub (SE.so (se_callB1 call_len sem_len (by rfl) T.n_len (by decide +kernel) (so_slot (pv 2)))) (SE.so se_int)) sar_nil))))
    (sss_one (ss_ret (se_op op_addA sem_add (SE.so (se_op op_addA sem_add (SE.so (se_cut (so_slot (pv 2)) spo_none (spo_some (se_val (pv 4))))) (SE.so (se_tup (sa_cons (se_ix (so_slot (pv 2)) (SE.so (se_op op_addA sem_add (so_slot (pv 4)) (SE.so se_int))) (fun _ _ => rfl)) (sa_cons (se_ix (so_slot (pv 2)) (so_slot (pv 4)) (fun _ _ => rfl)) sa_nil)))))) (SE.so (se_cut (so_slot (pv 2)) (spo_some (se_op op_addA sem_add (so_slot (pv 4)) (SE.so se_int))) spo_none)))))) sss_nil)
    (sss_cons (ss_set (i := 5) nd rfl (Or.inl rfl) (se_call ((ok__law_bad_pair T).mono (by decide)) hr (by rfl) T.g__law_bad_pair T.F__law_bad_pair.kp T.b__law_bad_pair tk (sar_io (pv 0) (sar_d (se_val (pv 1)) (sar_d (se_ix (SE.so (se_ix (so_slot (pv 2)) (so_slot (pv 4)) (fun _ _ => rfl))) (SE.so se_int) (fun _ _ => rfl)) (sar_d (se_ix (SE.so (se_ix (so_slot (pv 2)) (so_slot (pv 4)) (fun _ _ => rfl))) (SE.so se_int) (fun _ _ => rfl)) sar_nil))))))
    (sss_one (ss_ret (se_op op_addA sem_add (SE.so (se_op op_addA sem_add (SE.so (se_cut (so_slot (pv 2)) spo_none (spo_some (se_val (pv 4))))) (SE.so (se_tup (sa_cons (se_val (pv 5)) sa_nil))))) (SE.so (se_cut (so_slot (pv 2)) (spo_some (se_op op_addA sem_add (so_slot (pv 4)) (SE.so se_int))) spo_none)))))))))))))))
theorem sc__law_bad_bits : FnScope ["pool", "bits", "kind", "wrong", "at", "spoilt", "later"] ["pool", "bits"] (defScope s__law_bad_bits) := ⟨rfl, rfl, rfl, by decide +kernel, rfl, by decide +kernel, by decide +kernel⟩
def b__law_bad_bits : M Z.Flow :=
  mseq (mset 2 (mcall m__law_take [.io 0, .d (mpure (.int 16))]))
  (mseq (mifS (mbool (mop2 eqD (.slot 2) (.val (mpure (.int 0))))) (mret (mbind (mlst (mcons (mbind (mop2F catL (.slot 1) (.val (mbind (mlst (mcons (mpure (.int 0)) (mpure []))) fun ds => mpure (.lst ds)))) fun ds => mpure (.lst ds)) (mcons (mpure (.int 0)) (mpure [])))) fun ds => mpure (.lst ds))) (mnx))
  (mseq (mifS (mor (mbool (mop2 eqD (.slot 2) (.val (mpure (.int 1))))) (mbool (mop2 eqD (.val (mop1 lenD (.slot 1))) (.val (mpure (.int 0)))))) (mret (mbind (mlst (mcons (mop1 tupleD (.val (mbind (mop2F catL (.slot 1) (.val (mbind (mlst (mcons (mpure (.int 1)) (mcons (mpure (.int 0)) (mpure [])))) fun ds => mpure (.lst ds)))) fun ds => mpure (.lst ds)))) (mcons (mpure (.int 0)) (mpure [])))) fun ds => mpure (.lst ds))) (mnx))
  (mseq (mifS (mbool (mop2 eqD (.slot 2) (.val (mpure (.int 2))))) (mret (mbind (mlst (mcons (mbind (mcutL (.slot 1) (mpure none) (mbind (mop1 negD (.val (mpure (.int 1)))) fun x => mbind (mopt (toI x)) fun i => mpure (some i))) fun ds => mpure (.lst ds)) (mcons (mpure (.int 0)) (mpure [])))) fun ds => mpure (.lst ds))) (mnx))
  (mseq (mifS (mbool (mop2 eqD (.slot 2) (.val (mpure (.int 3))))) (mret (mbind (mlst (mcons (mpure .non) (mcons (mpure (.int 0)) (mpure [])))) fun ds => mpure (.lst ds))) (mnx))
  (mseq (mifS (mbool (mop2 eqD (.slot 2) (.val (mpure (.int 4))))) (mret (mbind (mlst (mcons (mop2 mulSD (.val (mpure (.str "0"))) (.val (mop1 lenD (.slot 1)))) (mcons (mpure (.int 0)) (mpure [])))) fun ds => mpure (.lst ds))) (mnx))
  (mseq (mset 3 (mtup (mcons (mpure (.int 2)) (mcons (mop2 subD (.val (mpure (.int 0))) (.val (mpure (.int 1)))) (mcons (mpure (.bl true)) (mcons (mpure (.bl false)) (mcons (mpure .non) (mcons (mpure (.str "1")) (mcons (mtup (mcons (mpure (.int 0)) (mpure []))) (mcons (mpure (.int 100000000000000000000)) (mpure [])))))))))))
  (mseq (mset 4 (mcall m__law_take [.io 0, .d (mop1 lenD (.slot 1))]))
  (mseq (msetF 5 (mop1F listD (.slot 1)))
  (mseq (msetIx 5 (mval 4) (mop2 idxD (.slot 3) (.val (mcall m__law_take [.io 0, .d (mpure (.int 8))]))))
  (mseq (mset 6 (mop2 addD (.slot 4) (.val (mcall m__law_take [.io 0, .d (mop2 subD (.val (mop1 lenD (.slot 1))) (.slot 4))]))))
  (mseq (mifS (mbool (mop2 gtD (.slot 6) (.slot 4))) (msetIx 5 (mval 6) (mop2 idxD (.slot 3) (.val (mcall m__law_take [.io 0, .d (mpure (.int 8))])))) (mnx))
  (mseq (mifS (mbool (mop2 eqD (.val (mcall m__law_take [.io 0, .d (mpure (.int 2))])) (.val (mpure (.int 0))))) (mret (mbind (mlst (mcons (mop1 tupleD (.slot 5)) (mcons (mval 4) (mpure [])))) fun ds => mpure (.lst ds))) (mnx))
  (mret (mbind (mlst (mcons (mval 5) (mcons (mval 4) (mpure [])))) fun ds => mpure (.lst ds)))))))))))))))
def m__law_bad_bits : Fn := runBody 7 b__law_bad_bits
theorem ok__law_bad_bits (T : Txt P K mg) : FnOk P w K mg base (L2N.CX P w) 2 T.a__law_bad_bits T.fd__law_bad_bits ["pool", "bits"] (spM K mg 2 m__law_bad_bits) :=
  fn_ok (k := 1) T.F__law_bad_bits sc__law_bad_bits (fun cdv A outer s H E hr => by
  have tk : L2N.Takes (cxOf (L2N.CX P w) P w K mg base ["pool", "bits", "kind", "wrong", "at", "spoilt", "later"] "_law_bad_bits" (defScope s__law_bad_bits) T.a__law_bad_bits cdv A outer s H E) (fun cls d _ H => E cls d H) := L2N.takes_of rfl rfl rfl rfl
  have hp : PassesOwn (model (cxOf (L2N.CX P w) P w K mg base ["pool", "bits", "kind", "wrong", "at", "spoilt", "later"] "_law_bad_bits" (defScope s__law_bad_bits) T.a__law_bad_bits cdv A outer s H E).prog (cxOf (L2N.CX P w) P w K mg base ["pool", "bits", "kind", "wrong", "at", "spoilt", "later"] "_law_bad_bits" (defScope s__law_bad_bits) T.a__law_bad_bits cdv A outer s H E).w) (cxOf (L2N.CX P w) P w K mg base ["pool", "bits", "kind", "wrong", "at", "spoilt", "later"] "_law_bad_bits" (defScope s__law_bad_bits) T.a__law_bad_bits cdv A outer s H E).A (cxOf (L2N.CX P w) P w K mg base ["pool", "bits", "kind", "wrong", "at", "spoilt", "later"] "_law_bad_bits" (defScope s__law_bad_bits) T.a__law_bad_bits cdv A outer s H E).env (cxOf (L2N.CX P w) P w K mg base ["pool", "bits", "kind", "wrong", "at", "spoilt", "later"] "_law_bad_bits" (defScope s__law_bad_bits) T.a__law_bad_bits cdv A outer s H E).xe := passes_of rfl
  have hu : (A.deeper (PyProof.Rows.envOfC "_law_bad_bits" (defScope s__law_bad_bits) s.heap.objs.size T.a__law_bad_bits cdv)).units + 64 < cLine := hr.units
  have hu5 : (A.deeper (PyProof.Rows.envOfC "_law_bad_bits" (defScope s__law_bad_bits) s.heap.objs.size T.a__law_bad_bits cdv)).units + 65 < cLine := by have := hr.un; omega
  have nd : (["pool", "bits", "kind", "wrong", "at", "spoilt", "later"] : List Str).Nodup := sc__law_bad_bits.nd
  exact (sss_cons (ss_set (i := 2) nd rfl (Or.inl rfl) (se_call ((ok__law_take T).mono (by decide)) hr (by rfl) T.g__law_take T.F__law_take.kp T.b__law_take tk (sar_io (pv 0) (sar_d se_int sar_nil))))
    (sss_cons (ss_if (st_cmp (op_eqA hu) sem_eq (so_slot (pv 2)) (SE.so se_int) (nomark _)) (sss_one (ss_ret (SF.se (sf_lst (sa_cons (SF.se (sf_op op_cat sem_cat (so_slot (pv 1)) (SE.so (SF.se (sf_lst (sa_cons se_int sa_nil)))))) (sa_cons se_int sa_nil)))))) sss_nil)
    (sss_cons (ss_if (SW.st (sw_or (st_cmp (op_eqA hu) sem_eq (so_slot (pv 2)) (SE.so se_int) (nomark _)) (sw_or1 (st_cmp (op_eqA hu) sem_eq (SE.so (se_callB1 call_len sem_len (by rfl) T.n_len (by decide +kernel) (so_slot (pv 1)))) (SE.so se_int) (nomark _))))) (sss_one (ss_ret (SF.se (sf_lst (sa_cons (se_callT1 call_tuple_of sem_tuple (by rfl) T.n_tuple (by decide +kernel) (SE.so (SF.se (sf_op op_cat sem_cat (so_slot (pv 1)) (SE.so (SF.se (sf_lst (sa_cons se_int (sa_cons se_int sa_nil))))))))) (sa_cons se_int sa_nil)))))) sss_nil)
    (sss_cons (ss_if (st_cmp (op_eqA hu) sem_eq (so_slot (pv 2)) (SE.so se_int) (nomark _)) (sss_one (ss_ret (SF.se (sf_lst (sa_cons (SF.se (sf_cut (so_slot (pv 1)) spo_none (spo_some (se_un un_neg sem_neg (SE.so se_int))))) (sa_cons se_int sa_nil)))))) sss_nil)
    (sss_cons (ss_if (st_cmp (op_eqA hu) sem_eq (so_slot (pv 2)) (SE.so se_int) (nomark _)) (sss_one (ss_ret (SF.se (sf_lst (sa_cons se_non (sa_cons se_int sa_nil)))))) sss_nil)
    (sss_cons (ss_if (st_cmp (op_eqA hu) sem_eq (so_slot (pv 2)) (SE.so se_int) (nomark _)) (sss_one (ss_ret (SF.se (sf_lst (sa_cons (se_op op_mulS sem_mulS (SE.so se_str) (SE.so (se_callB1 call_len sem_len (by rfl) T.n_len (by decide +kernel) (so_slot (pv 1))))) (sa_cons se_int sa_nil)))))) sss_nil)
    (sss_cons (ss_set (i := 3) nd rfl (Or.inl rfl) (se_tup (sa_cons se_int (sa_cons (se_op op_sub sem_sub (SE.so se_int) (SE.so se_int)) (sa_cons se_bl (sa_cons se_bl (sa_cons se_non (sa_cons se_str (sa_cons (se_tup (sa_cons se_int sa_nil)) (sa_cons se_int sa_nil))))))))))
    (sss_cons (ss_set (i := 4) nd rfl (Or.inl rfl) (se_call ((ok__law_take T).mono (by decide)) hr (by rfl) T.g__law_take T.F__law_take.kp T.b__law_take tk (sar_io (pv 0) (sar_d (se_callB1 call_len sem_len (by rfl) T.n_len (by decide +kernel) (so_slot (pv 1))) sar_nil))))
    (sss_cons (ss_setF (i := 5) nd rfl (Or.inl rfl) (sf_callT1 call_list_of sem_list (by rfl) T.n_list (by decide +kernel) (so_slot (pv 1))))
    (sss_cons (ss_setIx (i := 5) (pv 5) (se_val (pv 4)) (se_ix (so_slot (pv 3)) (SE.so (se_call ((ok__law_take T).mono (by decide)) hr (by rfl) T.g__law_take T.F__law_take.kp T.b__law_take tk (sar_io (pv 0) (sar_d se_int sar_nil)))) (fun _ _ => rfl)))
    (sss_cons (ss_set (i := 6) nd rfl (Or.inl rfl) (se_op op_addA sem_add (so_slot (pv 4)) (SE.so (se_call ((ok__law_take T).mono (by decide)) hr (by rfl) T.g__law_take T.F__law_take.kp T.b__law_take tk (sar_io (pv 0) (sar_d (se_op op_sub sem_sub (SE.so (se_callB1 call_len sem_len (by rfl) T.n_len (by decide +kernel) (so_slot (pv 1)))) (so_slot (pv 4))) sar_nil))))))
    (sss_cons (ss_if (st_cmp op_gt sem_gt (so_slot (pv 6)) (so_slot (pv 4)) (nomark _)) (sss_one (ss_setIx (i := 5) (pv 5) (se_val (pv 6)) (se_ix (so_slot (pv 3)) (SE.so (se_call ((ok__law_take T).mono (by decide)) hr (by rfl) T.g__law_take T.F__law_take.kp T.b__law_take tk (sar_io (pv 0) (sar_d se_int sar_nil)))) (fun _ _ => rfl)))) sss_nil)
    (sss_cons (ss_if (st_cmp (op_eqA hu) sem_eq (SE.so (se_call ((ok__law_take T).mono (by decide)) hr (by rfl) T.g__law_take T.F__law_take.kp T.b__law_take tk (sar_io (pv 0) (sar_d se_int sar_nil)))) (SE.so se_int) (nomark _)) (sss_one (ss_ret (SF.se (sf_lst (sa_cons (se_callT1 call_tuple_of sem_tuple (by rfl) T.n_tuple (by decide +kernel) (so_slot (pv 5))) (sa_cons (se_val (pv 4)) sa_nil)))))) sss_nil)
    (sss_one (ss_ret (SF.se (sf_lst (sa_cons (se_val (pv 5)) (sa_cons (se_val (pv 4)) sa_nil))))))))))))))))))))
theorem sc__law_refusal : FnScope ["which", "n", "ties", "coins", "secrets", "e", "kinds", "place", "k"] ["which", "n", "ties", "coins", "secrets"] (defScope s__law_refusal) := ⟨rfl, rfl, rfl, by decide +kernel, rfl, by decide +kernel, by decide +kernel⟩
def b__law_refusal : M Z.Flow :=
  mseq (mtryM (mifS (mbool (mop2 eqD (.slot 0) (.val (mpure (.int 0))))) (mdo (mcall m_said [.d (mval 1), .d (mval 2), .d (mval 3), .d (mval 4)])) (mdo (mcall m_sum_said [.d (mval 1), .d (mval 2), .d (mval 3), .d (mval 4)]))) (cNamed 5 (tab [("BadNumber", true), ("BadCalls", true), ("BadRow", true)]) (fun ex exa => mseq (mset 6 (mbind (mlst (mcons (misE 5 exa (tab [("BadNumber", true), ("BadCalls", false), ("BadRow", false)] ex.cls)) (mcons (misE 5 exa (tab [("BadNumber", false), ("BadCalls", true), ("BadRow", false)] ex.cls)) (mcons (misE 5 exa (tab [("BadNumber", false), ("BadCalls", false), ("BadRow", false)] ex.cls)) (mcons (misE 5 exa (tab [("BadNumber", false), ("BadCalls", false), ("BadRow", true)] ex.cls)) (mpure [])))))) fun ds => mpure (.lst ds)))
  (mseq (mset 6 (mbind (mop2F catL (.slot 6) (.val (mbind (mlst (mcons (misE 5 exa (tab [("BadNumber", false), ("BadCalls", false), ("BadRow", false)] ex.cls)) (mcons (misE 5 exa (tab [("BadNumber", false), ("BadCalls", false), ("BadRow", false)] ex.cls)) (mcons (misE 5 exa (tab [("BadNumber", false), ("BadCalls", false), ("BadRow", false)] ex.cls)) (mpure []))))) fun ds => mpure (.lst ds)))) fun ds => mpure (.lst ds)))
  (mseq (mset 6 (mbind (mop2F catL (.slot 6) (.val (mbind (mlst (mcons (misE 5 exa (tab [("BadNumber", false), ("BadCalls", false), ("BadRow", false)] ex.cls)) (mcons (misE 5 exa (tab [("BadNumber", false), ("BadCalls", false), ("BadRow", false)] ex.cls)) (mcons (misE 5 exa (tab [("BadNumber", false), ("BadCalls", false), ("BadRow", false)] ex.cls)) (mpure []))))) fun ds => mpure (.lst ds)))) fun ds => mpure (.lst ds)))
  (mseq (mset 6 (mbind (mop2F catL (.slot 6) (.val (mbind (mlst (mcons (misE 5 exa (tab [("BadNumber", false), ("BadCalls", false), ("BadRow", false)] ex.cls)) (mpure []))) fun ds => mpure (.lst ds)))) fun ds => mpure (.lst ds)))
  (mseq (mset 6 (mbind (mop2F catL (.slot 6) (.val (mbind (mlst (mcons (misE 5 exa (tab [("BadNumber", false), ("BadCalls", false), ("BadRow", false)] ex.cls)) (mcons (misE 5 exa (tab [("BadNumber", false), ("BadCalls", false), ("BadRow", false)] ex.cls)) (mcons (mnotV (misE 5 exa (tab [("BadNumber", true), ("BadCalls", true), ("BadRow", true)] ex.cls))) (mpure []))))) fun ds => mpure (.lst ds)))) fun ds => mpure (.lst ds)))
  (mseq (mset 7 (mpure (.int 0)))
  (mseq (mifS (mtru (.val (misE 5 exa (tab [("BadNumber", false), ("BadCalls", false), ("BadRow", true)] ex.cls)))) (mset 7 (mfld 5 exa ["BadRow"] ex)) (mnx))
  (mret (mbind (mlst (mcons (mop1 tupleD (.val (mbind (mcomp [8] (mrng rng1 (mcons (mop1 lenD (.slot 6)) (mpure []))) (gnm 8) (mtru (.val (mop2 idxD (.slot 6) (.slot 8)))) (mval 8)) fun ds => mpure (.lst ds)))) (mcons (mval 7) (mpure [])))) fun ds => mpure (.lst ds)))))))))) (cEnd)))
  (mret (mbind (mlst (mcons (mtup (mpure [])) (mcons (mpure (.int 0)) (mpure [])))) fun ds => mpure (.lst ds)))
def m__law_refusal : Fn := runBody 9 b__law_refusal
theorem ok__law_refusal (T : Txt P K mg) : FnOk P w K mg base (L2N.CX P w) 8 T.a__law_refusal T.fd__law_refusal ["which", "n", "ties", "coins", "secrets"] (spM K mg 5 m__law_refusal) :=
  fn_ok (k := 7) T.F__law_refusal sc__law_refusal (fun cdv A outer s H E hr => by
  have tk : L2N.Takes (cxOf (L2N.CX P w) P w K mg base ["which", "n", "ties", "coins", "secrets", "e", "kinds", "place", "k"] "_law_refusal" (defScope s__law_refusal) T.a__law_refusal cdv A outer s H E) (fun cls d _ H => E cls d H) := L2N.takes_of rfl rfl rfl rfl
  have hp : PassesOwn (model (cxOf (L2N.CX P w) P w K mg base ["which", "n", "ties", "coins", "secrets", "e", "kinds", "place", "k"] "_law_refusal" (defScope s__law_refusal) T.a__law_refusal cdv A outer s H E).prog (cxOf (L2N.CX P w) P w K mg base ["which", "n", "ties", "coins", "secrets", "e", "kinds", "place", "k"] "_law_refusal" (defScope s__law_refusal) T.a__law_refusal cdv A outer s H E).w) (cxOf (L2N.CX P w) P w K mg base ["which", "n", "ties", "coins", "secrets", "e", "kinds", "place", "k"] "_law_refusal" (defScope s__law_refusal) T.a__law_refusal cdv A outer s H E).A (cxOf (L2N.CX P w) P w K mg base ["which", "n", "ties", "coins", "secrets", "e", "kinds", "place", "k"] "_law_refusal" (defScope s__law_refusal) T.a__law_refusal cdv A outer s H E).env (cxOf (L2N.CX P w) P w K mg base ["which", "n", "ties", "coins", "secrets", "e", "kinds", "place", "k"] "_law_refusal" (defScope s__law_refusal) T.a__law_refusal cdv A outer s H E).xe := passes_of rfl
  have hu : (A.deeper (PyProof.Rows.envOfC "_law_refusal" (defScope s__law_refusal) s.heap.objs.size T.a__law_refusal cdv)).units + 64 < cLine := hr.units
  have hu5 : (A.deeper (PyProof.Rows.envOfC "_law_refusal" (defScope s__law_refusal) s.heap.objs.size T.a__law_refusal cdv)).units + 65 < cLine := by have := hr.un; omega
  have nd : (["which", "n", "ties", "coins", "secrets", "e", "kinds", "place", "k"] : List Str).Nodup := sc__law_refusal.nd
  exact (sss_cons (ss_tryM rfl rfl tk (fun _ _ _ tk hp => (sss_one (ss_if (st_cmp (op_eqA hu) sem_eq (so_slot (pv 0)) (SE.so se_int) (nomark _)) (sss_one (ss_expr (se_call ((ok_said T).mono (by decide)) hr (by rfl) T.g_said T.F_said.kp T.b_said tk (sar_d (se_val (pv 1)) (sar_d (se_val (pv 2)) (sar_d (se_val (pv 3)) (sar_d (se_val (pv 4)) sar_nil))))))) (sss_one (ss_expr (se_call ((ok_sum_said T).mono (by decide)) hr (by rfl) T.g_sum_said T.F_sum_said.kp T.b_sum_said tk (sar_d (se_val (pv 1)) (sar_d (se_val (pv 2)) (sar_d (se_val (pv 3)) (sar_d (se_val (pv 4)) sar_nil)))))))))) (ch_named (i := 5) nd rfl rfl ⟨by rfl, by decide, .inl T.c_JointError⟩ (sub_cons T.c_BadNumber T.m_BadNumber_JointError (sub_cons T.c_BadCalls T.m_BadCalls_JointError (sub_cons T.c_BadRow T.m_BadRow_JointError sub_nil))) (fun ex exd exa exC exo exp hC hfx hpd hz hv => (sss_cons (ss_set (i := 6) nd rfl (Or.inr rfl) (SF.se (sf_lst (sa_cons (se_isF (i := 5) hz.zc hpd hv hC (is_cons T.c_BadNumber T.h_BadNumber T.k_BadNumber_BadNumber (is_cons T.c_BadCalls T.h_BadCalls T.k_BadCalls_BadNumber (is_cons T.c_BadRow T.h_BadRow T.k_BadRow_BadNumber is_nil))) (by rfl) T.n_isinstance (pv 5) (pe_glob (v := .ref T.e_BadNumber) (by rfl) T.c_BadNumber rfl) (fun _ h => h)) (sa_cons (se_isF (i := 5) hz.zc hpd hv hC (is_cons T.c_BadNumber T.h_BadNumber T.k_BadNumber_BadCalls (is_cons T.c_BadCalls T.h_BadCalls T.k_BadCalls_BadCalls (is_cons T.c_BadRow T.h_BadRow T.k_BadRow_BadCalls is_nil))) (by rfl) T.n_isinstance (pv 5) (pe_glob (v := .ref T.e_BadCalls) (by rfl) T.c_BadCalls rfl) (fun _ h => h)) (sa_cons (se_isF (i := 5) hz.zc hpd hv hC (is_cons T.c_BadNumber T.h_BadNumber T.k_BadNumber_BadGroup (is_cons T.c_BadCalls T.h_BadCalls T.k_BadCalls_BadGroup (is_cons T.c_BadRow T.h_BadRow T.k_BadRow_BadGroup is_nil))) (by rfl) T.n_isinstance (pv 5) (pe_glob (v := .ref T.e_BadGroup) (by rfl) T.c_BadGroup rfl) (fun _ h => h)) (sa_cons (se_isF (i := 5) hz.zc hpd hv hC (is_cons T.c_BadNumber T.h_BadNumber T.k_BadNumber_BadRow (is_cons T.c_BadCalls T.h_BadCalls T.k_BadCalls_BadRow (is_cons T.c_BadRow T.h_BadRow T.k_BadRow_BadRow is_nil))) (by rfl) T.n_isinstance (pv 5) (pe_glob (v := .ref T.e_BadRow) (by rfl) T.c_BadRow rfl) (fun _ h => h)) sa_nil)))))))
    (sss_cons (ss_set (i := 6) nd rfl (Or.inr rfl) (SF.se (sf_op op_cat sem_cat (so_slot (pv 6)) (SE.so (SF.se (sf_lst (sa_cons (se_isF (i := 5) hz.zc hpd hv hC (is_cons T.c_BadNumber T.h_BadNumber T.k_BadNumber_BadDeals (is_cons T.c_BadCalls T.h_BadCalls T.k_BadCalls_BadDeals (is_cons T.c_BadRow T.h_BadRow T.k_BadRow_BadDeals is_nil))) (by rfl) T.n_isinstance (pv 5) (pe_glob (v := .ref T.e_BadDeals) (by rfl) T.c_BadDeals rfl) (fun _ h => h)) (sa_cons (se_isF (i := 5) hz.zc hpd hv hC (is_cons T.c_BadNumber T.h_BadNumber T.k_BadNumber_BadLine (is_cons T.c_BadCalls T.h_BadCalls T.k_BadCalls_BadLine (is_cons T.c_BadRow T.h_BadRow T.k_BadRow_BadLine is_nil))) (by rfl) T.n_isinstance (pv 5) (pe_glob (v := .ref T.e_BadLine) (by rfl) T.c_BadLine rfl) (fun _ h => h)) (sa_cons (se_isF (i := 5) hz.zc hpd hv hC (is_cons T.c_BadNumber T.h_BadNumber T.k_BadNumber_BadSteps (is_cons T.c_BadCalls T.h_BadCalls T.k_BadCalls_BadSteps (is_cons T.c_BadRow T.h_BadRow T.k_BadRow_BadSteps is_nil))) (by rfl) T.n_isinstance (pv 5) (pe_glob (v := .ref T.e_BadSteps) (by rfl) T.c_BadSteps rfl) (fun _ h => h)) sa_nil)))))))))
    (sss_cons (ss_set (i := 6) nd rfl (Or.inr rfl) (SF.se (sf_op op_cat sem_cat (so_slot (pv 6)) (SE.so (SF.se (sf_lst (sa_cons (se_isF (i := 5) hz.zc hpd hv hC (is_cons T.c_BadNumber T.h_BadNumber T.k_BadNumber_BadTable (is_cons T.c_BadCalls T.h_BadCalls T.k_BadCalls_BadTable (is_cons T.c_BadRow T.h_BadRow T.k_BadRow_BadTable is_nil))) (by rfl) T.n_isinstance (pv 5) (pe_glob (v := .ref T.e_BadTable) (by rfl) T.c_BadTable rfl) (fun _ h => h)) (sa_cons (se_isF (i := 5) hz.zc hpd hv hC (is_cons T.c_BadNumber T.h_BadNumber T.k_BadNumber_BadText (is_cons T.c_BadCalls T.h_BadCalls T.k_BadCalls_BadText (is_cons T.c_BadRow T.h_BadRow T.k_BadRow_BadText is_nil))) (by rfl) T.n_isinstance (pv 5) (pe_glob (v := .ref T.e_BadText) (by rfl) T.c_BadText rfl) (fun _ h => h)) (sa_cons (se_isF (i := 5) hz.zc hpd hv hC (is_cons T.c_BadNumber T.h_BadNumber T.k_BadNumber_BadWorlds (is_cons T.c_BadCalls T.h_BadCalls T.k_BadCalls_BadWorlds (is_cons T.c_BadRow T.h_BadRow T.k_BadRow_BadWorlds is_nil))) (by rfl) T.n_isinstance (pv 5) (pe_glob (v := .ref T.e_BadWorlds) (by rfl) T.c_BadWorlds rfl) (fun _ h => h)) sa_nil)))))))))
    (sss_cons (ss_set (i := 6) nd rfl (Or.inr rfl) (SF.se (sf_op op_cat sem_cat (so_slot (pv 6)) (SE.so (SF.se (sf_lst (sa_cons (se_isF (i := 5) hz.zc hpd hv hC (is_cons T.c_BadNumber T.h_BadNumber T.k_BadNumber_NothingDone (is_cons T.c_BadCalls T.h_BadCalls T.k_BadCalls_NothingDone (is_cons T.c_BadRow T.h_BadRow T.k_BadRow_NothingDone is_nil))) (by rfl) T.n_isinstance (pv 5) (pe_glob (v := .ref T.e_NothingDone) (by rfl) T.c_NothingDone rfl) (fun _ h => h)) sa_nil)))))))
    (sss_cons (ss_set (i := 6) nd rfl (Or.inr rfl) (SF.se (sf_op op_cat sem_cat (so_slot (pv 6)) (SE.so (SF.se (sf_lst (sa_cons (se_isF (i := 5) hz.zc hpd hv hC (is_cons T.c_BadNumber T.h_BadNumber T.k_BadNumber_NotThere (is_cons T.c_BadCalls T.h_BadCalls T.k_BadCalls_NotThere (is_cons T.c_BadRow T.h_BadRow T.k_BadRow_NotThere is_nil))) (by rfl) T.n_isinstance (pv 5) (pe_glob (v := .ref T.e_NotThere) (by rfl) T.c_NotThere rfl) (fun _ h => h)) (sa_cons (se_isF (i := 5) hz.zc hpd hv hC (is_cons T.c_BadNumber T.h_BadNumber T.k_BadNumber_TooLarge (is_cons T.c_BadCalls T.h_BadCalls T.k_BadCalls_TooLarge (is_cons T.c_BadRow T.h_BadRow T.k_BadRow_TooLarge is_nil))) (by rfl) T.n_isinstance (pv 5) (pe_glob (v := .ref T.e_TooLarge) (by rfl) T.c_TooLarge rfl) (fun _ h => h)) (sa_cons (se_not (se_isF (i := 5) hz.zc hpd hv hC (is_cons T.c_BadNumber T.h_BadNumber T.k_BadNumber_ValueError (is_cons T.c_BadCalls T.h_BadCalls T.k_BadCalls_ValueError (is_cons T.c_BadRow T.h_BadRow T.k_BadRow_ValueError is_nil))) (by rfl) T.n_isinstance (pv 5) (pe_bltn (v := .ty "ValueError") (by rfl) T.n_ValueError (by decide +kernel) rfl) (fun _ h => h))) sa_nil)))))))))
    (sss_cons (ss_set (i := 7) nd rfl (Or.inl rfl) se_int)
    (sss_cons (ss_if (st_tru (SE.so (se_isF (i := 5) hz.zc hpd hv hC (is_cons T.c_BadNumber T.h_BadNumber T.k_BadNumber_BadRow (is_cons T.c_BadCalls T.h_BadCalls T.k_BadCalls_BadRow (is_cons T.c_BadRow T.h_BadRow T.k_BadRow_BadRow is_nil))) (by rfl) T.n_isinstance (pv 5) (pe_glob (v := .ref T.e_BadRow) (by rfl) T.c_BadRow rfl) (fun _ h => h))) (by intro _; rfl)) (sss_one (ss_set (i := 7) nd rfl (Or.inl rfl) (se_fld (i := 5) hz.zc hpd hv hC hfx (fld_cons T.c_BadRow T.h_BadRow T.nf_BadRow fld_nil) (pv 5)))) sss_nil)
    (sss_one (ss_ret (SF.se (sf_lst (sa_cons (se_callT1 call_tuple_of sem_tuple (by rfl) T.n_tuple (by decide +kernel) (SE.so (SF.se (sf_compH (own := [("k", 8)]) (hot_of hz hv) nd  (sih_range1 (by rfl) T.n_range (sa_cons (se_callB1 call_len sem_len (by rfl) T.n_len (by decide +kernel) (so_slot (pv 6))) sa_nil)) (blkOk_by (own := [("k", 8)]) (N := ["which", "n", "ties", "coins", "secrets", "e", "kinds", "place", "k"]) (sc := defScope s__law_refusal) (by decide +kernel)) (fun _ _ _ _ _ => (sg_name (i := 8) (by decide) (pg_name (i := 8) nd rfl (by first | exact Or.inl rfl | exact Or.inr rfl)))) (fun _ _ _ _ _ => (spts_one (st_tru (SE.so (se_ix (so_slot (pv 6)) (so_slot (pv 8)) (fun _ _ => rfl))) (by intro _; rfl)))) (fun _ _ _ _ _ => (se_val (pv 8))))))) (sa_cons (se_val (pv 7)) sa_nil)))))))))))))) ch_end))
    (sss_one (ss_ret (SF.se (sf_lst (sa_cons (se_tup sa_nil) (sa_cons se_int sa_nil))))))))
theorem sc__law_refused : FnScope ["n", "ties", "coins", "secrets", "due", "which"] ["n", "ties", "coins", "secrets", "due"] (defScope s__law_refused) := ⟨rfl, rfl, rfl, by decide +kernel, rfl, by decide +kernel, by decide +kernel⟩
def b__law_refused : M Z.Flow :=
  mseq (mforS (mrng rng1 (mcons (mpure (.int 2)) (mpure []))) (gnm 5) (mifS (mnot (mtru (.val (mcall (m__law_same 10) [.d (mop1 tupleD (.val (mcall m__law_refusal [.d (mval 5), .d (mval 0), .d (mval 1), .d (mval 2), .d (mval 3)]))), .d (mval 4)])))) (mret (mpure (.bl false))) (mnx)))
  (mret (mpure (.bl true)))
def m__law_refused : Fn := runBody 6 b__law_refused
theorem ok__law_refused (T : Txt P K mg) : FnOk P w K mg base (L2N.CX P w) 11 T.a__law_refused T.fd__law_refused ["n", "ties", "coins", "secrets", "due"] (spM K mg 5 m__law_refused) :=
  fn_ok (k := 10) T.F__law_refused sc__law_refused (fun cdv A outer s H E hr => by
  have tk : L2N.Takes (cxOf (L2N.CX P w) P w K mg base ["n", "ties", "coins", "secrets", "due", "which"] "_law_refused" (defScope s__law_refused) T.a__law_refused cdv A outer s H E) (fun cls d _ H => E cls d H) := L2N.takes_of rfl rfl rfl rfl
  have hp : PassesOwn (model (cxOf (L2N.CX P w) P w K mg base ["n", "ties", "coins", "secrets", "due", "which"] "_law_refused" (defScope s__law_refused) T.a__law_refused cdv A outer s H E).prog (cxOf (L2N.CX P w) P w K mg base ["n", "ties", "coins", "secrets", "due", "which"] "_law_refused" (defScope s__law_refused) T.a__law_refused cdv A outer s H E).w) (cxOf (L2N.CX P w) P w K mg base ["n", "ties", "coins", "secrets", "due", "which"] "_law_refused" (defScope s__law_refused) T.a__law_refused cdv A outer s H E).A (cxOf (L2N.CX P w) P w K mg base ["n", "ties", "coins", "secrets", "due", "which"] "_law_refused" (defScope s__law_refused) T.a__law_refused cdv A outer s H E).env (cxOf (L2N.CX P w) P w K mg base ["n", "ties", "coins", "secrets", "due", "which"] "_law_refused" (defScope s__law_refused) T.a__law_refused cdv A outer s H E).xe := passes_of rfl
  have hu : (A.deeper (PyProof.Rows.envOfC "_law_refused" (defScope s__law_refused) s.heap.objs.size T.a__law_refused cdv)).units + 64 < cLine := hr.units
  have hu5 : (A.deeper (PyProof.Rows.envOfC "_law_refused" (defScope s__law_refused) s.heap.objs.size T.a__law_refused cdv)).units + 65 < cLine := by have := hr.un; omega
  have nd : (["n", "ties", "coins", "secrets", "due", "which"] : List Str).Nodup := sc__law_refused.nd
  exact (sss_cons (ss_for1 (js := [5]) hp rfl (si_range1 (by rfl) T.n_range (sa_cons se_int sa_nil)) (sg_name (i := 5) (by decide) (pg_name (i := 5) nd rfl (by first | exact Or.inl rfl | exact Or.inr rfl))) (sss_one (ss_if (st_not (st_tru (SE.so (se_call ((ok__law_same T 10).mono (by decide)) hr (by rfl) T.g__law_same T.F__law_same.kp T.b__law_same tk (sar_d (se_callT1 call_tuple_of sem_tuple (by rfl) T.n_tuple (by decide +kernel) (SE.so (se_call ((ok__law_refusal T).mono (by decide)) hr (by rfl) T.g__law_refusal T.F__law_refusal.kp T.b__law_refusal tk (sar_d (se_val (pv 5)) (sar_d (se_val (pv 0)) (sar_d (se_val (pv 1)) (sar_d (se_val (pv 2)) (sar_d (se_val (pv 3)) sar_nil)))))))) (sar_d (se_val (pv 4)) sar_nil)))) (by intro _; rfl))) (sss_one (ss_ret se_bl)) sss_nil)))
    (sss_one (ss_ret se_bl))))
theorem sc_law : FnScope ["script", "pool", "n", "ties", "coins", "secrets", "turned", "who", "thrown", "at", "wrong", "cut", "odd", "loose", "k"] ["script"] (defScope s_law) := ⟨rfl, rfl, rfl, by decide +kernel, rfl, by decide +kernel, by decide +kernel⟩
def b_law : M Z.Flow :=
  mseq (msetF 1 (mcallF m__law_pool [.d (mval 0)]))
  (mseq (mset 2 (mop2 addD (.val (mpure (.int 2))) (.val (mcall m__law_take [.io 1, .d (mpure (.int 5))]))))
  (mseq (mset 3 (mcall m__law_ties [.io 1, .d (mval 2)]))
  (mseq (mset 4 (mbind (mcomp [14] (mrng rng1 (mcons (mop1 lenD (.slot 3)) (mpure []))) (gnm 14) (mpure true) (mcall m__law_take [.io 1, .d (mpure (.int 2))])) fun ds => mpure (.lst ds)))
  (mseq (mset 5 (mbind (mcomp [14] (mrng rng1 (mcons (mval 2) (mpure []))) (gnm 14) (mpure true) (mcall m__law_take [.io 1, .d (mpure (.int 2))])) fun ds => mpure (.lst ds)))
  (mseq (mifS (mnot (mtru (.val (mcall m__law_said_fits [.io 1, .d (mval 2), .d (mval 3), .d (mval 4), .d (mval 5)])))) (mret (mpure (.bl false))) (mnx))
  (mseq (msetF 6 (mop1F listD (.slot 5)))
  (mseq (mset 7 (mcall m__law_take [.io 1, .d (mval 2)]))
  (mseq (msetIx 6 (mval 7) (mop2 subD (.val (mpure (.int 1))) (.val (mop2 idxD (.slot 6) (.slot 7)))))
  (mseq (mifS (mnot (mtru (.val (mcall m__law_said_fits [.io 1, .d (mval 2), .d (mval 3), .d (mval 4), .d (mval 6)])))) (mret (mpure (.bl false))) (mnx))
  (mseq (mifS (mbool (mop2 gtD (.val (mop1 lenD (.slot 3))) (.val (mpure (.int 0))))) (mseq (msetF 8 (mop1F listD (.slot 4)))
  (mseq (mset 9 (mcall m__law_take [.io 1, .d (mop1 lenD (.slot 3))]))
  (mseq (msetIx 8 (mval 9) (mop2 subD (.val (mpure (.int 1))) (.val (mop2 idxD (.slot 8) (.slot 9)))))
  (mifS (mnot (mtru (.val (mcall m__law_said_fits [.io 1, .d (mval 2), .d (mval 3), .d (mval 8), .d (mval 5)])))) (mret (mpure (.bl false))) (mnx))))) (mnx))
  (mseq (mset 10 (mcall m__law_bad_number [.io 1]))
  (mseq (mset 11 (mcall m__law_bad_ties [.io 1, .d (mval 2), .d (mval 3)]))
  (mseq (mset 12 (mcall m__law_bad_bits [.io 1, .d (mval 4)]))
  (mseq (mset 13 (mcall m__law_bad_bits [.io 1, .d (mval 5)]))
  (mseq (mifS (mnot (mtru (.val (mcall m__law_refused [.d (mval 10), .d (mval 3), .d (mval 4), .d (mval 5), .d (mtup (mcons (mtup (mcons (mpure (.int 0)) (mpure []))) (mcons (mpure (.int 0)) (mpure []))))])))) (mret (mpure (.bl false))) (mnx))
  (mseq (mifS (mnot (mtru (.val (mcall m__law_refused [.d (mval 10), .d (mval 11), .d (mval 4), .d (mval 5), .d (mtup (mcons (mtup (mcons (mpure (.int 0)) (mpure []))) (mcons (mpure (.int 0)) (mpure []))))])))) (mret (mpure (.bl false))) (mnx))
  (mseq (mifS (mnot (mtru (.val (mcall m__law_refused [.d (mval 2), .d (mval 11), .d (mval 4), .d (mval 5), .d (mtup (mcons (mtup (mcons (mpure (.int 1)) (mpure []))) (mcons (mpure (.int 0)) (mpure []))))])))) (mret (mpure (.bl false))) (mnx))
  (mseq (mifS (mnot (mtru (.val (mcall m__law_refused [.d (mval 2), .d (mval 11), .d (mop2 idxD (.slot 12) (.val (mpure (.int 0)))), .d (mval 5), .d (mtup (mcons (mtup (mcons (mpure (.int 1)) (mpure []))) (mcons (mpure (.int 0)) (mpure []))))])))) (mret (mpure (.bl false))) (mnx))
  (mseq (mifS (mnot (mtru (.val (mcall m__law_refused [.d (mval 2), .d (mval 3), .d (mop2 idxD (.slot 12) (.val (mpure (.int 0)))), .d (mval 5), .d (mtup (mcons (mtup (mcons (mpure (.int 3)) (mpure []))) (mcons (mop2 idxD (.slot 12) (.val (mpure (.int 1)))) (mpure []))))])))) (mret (mpure (.bl false))) (mnx))
  (mseq (mifS (mnot (mtru (.val (mcall m__law_refused [.d (mval 2), .d (mval 3), .d (mop2 idxD (.slot 12) (.val (mpure (.int 0)))), .d (mop2 idxD (.slot 13) (.val (mpure (.int 0)))), .d (mtup (mcons (mtup (mcons (mpure (.int 3)) (mpure []))) (mcons (mop2 idxD (.slot 12) (.val (mpure (.int 1)))) (mpure []))))])))) (mret (mpure (.bl false))) (mnx))
  (mseq (mifS (mnot (mtru (.val (mcall m__law_refused [.d (mval 2), .d (mval 3), .d (mval 4), .d (mop2 idxD (.slot 13) (.val (mpure (.int 0)))), .d (mtup (mcons (mtup (mcons (mpure (.int 3)) (mpure []))) (mcons (mop2 idxD (.slot 13) (.val (mpure (.int 1)))) (mpure []))))])))) (mret (mpure (.bl false))) (mnx))
  (mret (mcall m__law_refused [.d (mval 2), .d (mval 3), .d (mval 4), .d (mval 5), .d (mtup (mcons (mtup (mpure [])) (mcons (mpure (.int 0)) (mpure []))))])))))))))))))))))))))))
def m_law : Fn := runBody 15 b_law
theorem ok_law (T : Txt P K mg) : FnOk P w K mg base (L2N.CX P w) 12 T.a_law T.fd_law ["script"] (spM K mg 1 m_law) :=
  fn_ok (k := 11) T.F_law sc_law (fun cdv A outer s H E hr => by
  have tk : L2N.Takes (cxOf (L2N.CX P w) P w K mg base ["script", "pool", "n", "ties", "coins", "secrets", "turned", "who", "thrown", "at", "wrong", "cut", "odd", "loose", "k"] "law" (defScope s_law) T.a_law cdv A outer s H E) (fun cls d _ H => E cls d H) := L2N.takes_of rfl rfl rfl rfl
  have hp : PassesOwn (model (cxOf (L2N.CX P w) P w K mg base ["script", "pool", "n", "ties", "coins", "secrets", "turned", "who", "thrown", "at", "wrong", "cut", "odd", "loose", "k"] "law" (defScope s_law) T.a_law cdv A outer s H E).prog (cxOf (L2N.CX P w) P w K mg base ["script", "pool", "n", "ties", "coins", "secrets", "turned", "who", "thrown", "at", "wrong", "cut", "odd", "loose", "k"] "law" (defScope s_law) T.a_law cdv A outer s H E).w) (cxOf (L2N.CX P w) P w K mg base ["script", "pool", "n", "ties", "coins", "secrets", "turned", "who", "thrown", "at", "wrong", "cut", "odd", "loose", "k"] "law" (defScope s_law) T.a_law cdv A outer s H E).A (cxOf (L2N.CX P w) P w K mg base ["script", "pool", "n", "ties", "coins", "secrets", "turned", "who", "thrown", "at", "wrong", "cut", "odd", "loose", "k"] "law" (defScope s_law) T.a_law cdv A outer s H E).env (cxOf (L2N.CX P w) P w K mg base ["script", "pool", "n", "ties", "coins", "secrets", "turned", "who", "thrown", "at", "wrong", "cut", "odd", "loose", "k"] "law" (defScope s_law) T.a_law cdv A outer s H E).xe := passes_of rfl
  have hu : (A.deeper (PyProof.Rows.envOfC "law" (defScope s_law) s.heap.objs.size T.a_law cdv)).units + 64 < cLine := hr.units
  have hu5 : (A.deeper (PyProof.Rows.envOfC "law" (defScope s_law) s.heap.objs.size T.a_law cdv)).units + 65 < cLine := by have := hr.un; omega
  have nd : (["script", "pool", "n", "ties", "coins", "secrets", "turned", "who", "thrown", "at", "wrong", "cut", "odd", "loose", "k"] : List Str).Nodup := sc_law.nd
  exact (sss_cons (ss_setF (i := 1) nd rfl (Or.inr rfl) (sf_call ((ok__law_pool T).mono (by decide)) hr (by rfl) T.g__law_pool T.F__law_pool.kp T.b__law_pool tk (sar_d (se_val (pv 0)) sar_nil)))
    (sss_cons (ss_set (i := 2) nd rfl (Or.inl rfl) (se_op op_addA sem_add (SE.so se_int) (SE.so (se_call ((ok__law_take T).mono (by decide)) hr (by rfl) T.g__law_take T.F__law_take.kp T.b__law_take tk (sar_io (pv 1) (sar_d se_int sar_nil))))))
    (sss_cons (ss_set (i := 3) nd rfl (Or.inl rfl) (se_call ((ok__law_ties T).mono (by decide)) hr (by rfl) T.g__law_ties T.F__law_ties.kp T.b__law_ties tk (sar_io (pv 1) (sar_d (se_val (pv 2)) sar_nil))))
    (sss_cons (ss_setLcD (own := [("k", 14)]) (i := 4) rfl nd rfl rfl (sw_true rfl rfl rfl (by decide +kernel)) (si_range1 (by rfl) T.n_range (sa_cons (se_callB1 call_len sem_len (by rfl) T.n_len (by decide +kernel) (so_slot (pv 3))) sa_nil)) (blkOk_by (own := [("k", 14)]) (N := ["script", "pool", "n", "ties", "coins", "secrets", "turned", "who", "thrown", "at", "wrong", "cut", "odd", "loose", "k"]) (sc := defScope s_law) (by decide +kernel)) (fun _ _ _ _ _ => (sg_name (i := 14) (by decide) (pg_name (i := 14) nd rfl (by first | exact Or.inl rfl | exact Or.inr rfl)))) (fun _ _ _ _ _ => spts_nil) (fun _ _ _ _ _ => (fun (tk1 : L2N.Takes _ W0) => (se_call ((ok__law_take T).mono (by decide)) hr (by rfl) T.g__law_take T.F__law_take.kp T.b__law_take tk1 (sar_io (pv 1) (sar_d se_int sar_nil)))) takesN))
    (sss_cons (ss_setLcD (own := [("k", 14)]) (i := 5) rfl nd rfl rfl (sw_true rfl rfl rfl (by decide +kernel)) (si_range1 (by rfl) T.n_range (sa_cons (se_val (pv 2)) sa_nil)) (blkOk_by (own := [("k", 14)]) (N := ["script", "pool", "n", "ties", "coins", "secrets", "turned", "who", "thrown", "at", "wrong", "cut", "odd", "loose", "k"]) (sc := defScope s_law) (by decide +kernel)) (fun _ _ _ _ _ => (sg_name (i := 14) (by decide) (pg_name (i := 14) nd rfl (by first | exact Or.inl rfl | exact Or.inr rfl)))) (fun _ _ _ _ _ => spts_nil) (fun _ _ _ _ _ => (fun (tk1 : L2N.Takes _ W0) => (se_call ((ok__law_take T).mono (by decide)) hr (by rfl) T.g__law_take T.F__law_take.kp T.b__law_take tk1 (sar_io (pv 1) (sar_d se_int sar_nil)))) takesN))
    (sss_cons (ss_if (st_not (st_tru (SE.so (se_call ((ok__law_said_fits T).mono (by decide)) hr (by rfl) T.g__law_said_fits T.F__law_said_fits.kp T.b__law_said_fits tk (sar_io (pv 1) (sar_d (se_val (pv 2)) (sar_d (se_val (pv 3)) (sar_d (se_val (pv 4)) (sar_d (se_val (pv 5)) sar_nil))))))) (by intro _; rfl))) (sss_one (ss_ret se_bl)) sss_nil)
    (sss_cons (ss_setF (i := 6) nd rfl (Or.inl rfl) (sf_callT1 call_list_of sem_list (by rfl) T.n_list (by decide +kernel) (so_slot (pv 5))))
    (sss_cons (ss_set (i := 7) nd rfl (Or.inl rfl) (se_call ((ok__law_take T).mono (by decide)) hr (by rfl) T.g__law_take T.F__law_take.kp T.b__law_take tk (sar_io (pv 1) (sar_d (se_val (pv 2)) sar_nil))))
    (sss_cons (ss_setIx (i := 6) (pv 6) (se_val (pv 7)) (se_op op_sub sem_sub (SE.so se_int) (SE.so (se_ix (so_slot (pv 6)) (so_slot (pv 7)) (fun _ _ => rfl)))))
    (sss_cons (ss_if (st_not (st_tru (SE.so (se_call ((ok__law_said_fits T).mono (by decide)) hr (by rfl) T.g__law_said_fits T.F__law_said_fits.kp T.b__law_said_fits tk (sar_io (pv 1) (sar_d (se_val (pv 2)) (sar_d (se_val (pv 3)) (sar_d (se_val (pv 4)) (sar_d (se_val (pv 6)) sar_nil))))))) (by intro _; rfl))) (sss_one (ss_ret se_bl)) sss_nil)
    (sss_cons (ss_if (st_cmp op_gt sem_gt (SE.so (se_callB1 call_len sem_len (by rfl) T.n_len (by decide +kernel) (so_slot (pv 3)))) (SE.so se_int) (nomark _)) (sss_cons (ss_setF (i := 8) nd rfl (Or.inl rfl) (sf_callT1 call_list_of sem_list (by rfl) T.n_list (by decide +kernel) (so_slot (pv 4))))
    (sss_cons (ss_set (i := 9) nd rfl (Or.inl rfl) (se_call ((ok__law_take T).mono (by decide)) hr (by rfl) T.g__law_take T.F__law_take.kp T.b__law_take tk (sar_io (pv 1) (sar_d (se_callB1 call_len sem_len (by rfl) T.n_len (by decide +kernel) (so_slot (pv 3))) sar_nil))))
    (sss_cons (ss_setIx (i := 8) (pv 8) (se_val (pv 9)) (se_op op_sub sem_sub (SE.so se_int) (SE.so (se_ix (so_slot (pv 8)) (so_slot (pv 9)) (fun _ _ => rfl)))))
    (sss_one (ss_if (st_not (st_tru (SE.so (se_call ((ok__law_said_fits T).mono (by decide)) hr (by rfl) T.g__law_said_fits T.F__law_said_fits.kp T.b__law_said_fits tk (sar_io (pv 1) (sar_d (se_val (pv 2)) (sar_d (se_val (pv 3)) (sar_d (se_val (pv 8)) (sar_d (se_val (pv 5)) sar_nil))))))) (by intro _; rfl))) (sss_one (ss_ret se_bl)) sss_nil))))) sss_nil)
    (sss_cons (ss_set (i := 10) nd rfl (Or.inl rfl) (se_call ((ok__law_bad_number T).mono (by decide)) hr (by rfl) T.g__law_bad_number T.F__law_bad_number.kp T.b__law_bad_number tk (sar_io (pv 1) sar_nil)))
    (sss_cons (ss_set (i := 11) nd rfl (Or.inl rfl) (se_call ((ok__law_bad_ties T).mono (by decide)) hr (by rfl) T.g__law_bad_ties T.F__law_bad_ties.kp T.b__law_bad_ties tk (sar_io (pv 1) (sar_d (se_val (pv 2)) (sar_d (se_val (pv 3)) sar_nil)))))
    (sss_cons (ss_set (i := 12) nd rfl (Or.inl rfl) (se_call ((ok__law_bad_bits T).mono (by decide)) hr (by rfl) T.g__law_bad_bits T.F__law_bad_bits.kp T.b__law_bad_bits tk (sar_io (pv 1) (sar_d (se_val (pv 4)) sar_nil))))
    (sss_cons (ss_set (i := 13) nd rfl (Or.inl rfl) (se_call ((ok__law_bad_bits T).mono (by decide)) hr (by rfl) T.g__law_bad_bits T.F__law_bad_bits.kp T.b__law_bad_bits tk (sar_io (pv 1) (sar_d (se_val (pv 5)) sar_nil))))
    (sss_cons (ss_if (st_not (st_tru (SE.so (se_call ((ok__law_refused T).mono (by decide)) hr (by rfl) T.g__law_refused T.F__law_refused.kp T.b__law_refused tk (sar_d (se_val (pv 10)) (sar_d (se_val (pv 3)) (sar_d (se_val (pv 4)) (sar_d (se_val (pv 5)) (sar_d (se_tup (sa_cons (se_tup (sa_cons se_int sa_nil)) (sa_cons se_int sa_nil))) sar_nil))))))) (by intro _; rfl))) (sss_one (ss_ret se_bl)) sss_nil)
    (sss_cons (ss_if (st_not (st_tru (SE.so (se_call ((ok__law_refused T).mono (by decide)) hr (by rfl) T.g__law_refused T.F__law_refused.kp T.b__law_refused tk (sar_d (se_val (pv 10)) (sar_d (se_val (pv 11)) (sar_d (se_val (pv 4)) (sar_d (se_val (pv 5)) (sar_d (se_tup (sa_cons (se_tup (sa_cons se_int sa_nil)) (sa_cons se_int sa_nil))) sar_nil))))))) (by intro _; rfl))) (sss_one (ss_ret se_bl)) sss_nil)
    (sss_cons (ss_if (st_not (st_tru (SE.so (se_call ((ok__law_refused T).mono (by decide)) hr (by rfl) T.g__law_refused T.F__law_refused.kp T.b__law_refused tk (sar_d (se_val (pv 2)) (sar_d (se_val (pv 11)) (sar_d (se_val (pv 4)) (sar_d (se_val (pv 5)) (sar_d (se_tup (sa_cons (se_tup (sa_cons se_int sa_nil)) (sa_cons se_int sa_nil))) sar_nil))))))) (by intro _; rfl))) (sss_one (ss_ret se_bl)) sss_nil)
    (sss_cons (ss_if (st_not (st_tru (SE.so (se_call ((ok__law_refused T).mono (by decide)) hr (by rfl) T.g__law_refused T.F__law_refused.kp T.b__law_refused tk (sar_d (se_val (pv 2)) (sar_d (se_val (pv 11)) (sar_d (se_ix (so_slot (pv 12)) (SE.so se_int) (fun _ _ => rfl)) (sar_d (se_val (pv 5)) (sar_d (se_tup (sa_cons (se_tup (sa_cons se_int sa_nil)) (sa_cons se_int sa_nil))) sar_nil))))))) (by intro _; rfl))) (sss_one (ss_ret se_bl)) sss_nil)
    (sss_cons (ss_if (st_not (st_tru (SE.so (se_call ((ok__law_refused T).mono (by decide)) hr (by rfl) T.g__law_refused T.F__law_refused.kp T.b__law_refused tk (sar_d (se_val (pv 2)) (sar_d (se_val (pv 3)) (sar_d (se_ix (so_slot (pv 12)) (SE.so se_int) (fun _ _ => rfl)) (sar_d (se_val (pv 5)) (sar_d (se_tup (sa_cons (se_tup (sa_cons se_int sa_nil)) (sa_cons (se_ix (so_slot (pv 12)) (SE.so se_int) (fun _ _ => rfl)) sa_nil))) sar_nil))))))) (by intro _; rfl))) (sss_one (ss_ret se_bl)) sss_nil)
    (sss_cons (ss_if (st_not (st_tru (SE.so (se_call ((ok__law_refused T).mono (by decide)) hr (by rfl) T.g__law_refused T.F__law_refused.kp T.b__law_refused tk (sar_d (se_val (pv 2)) (sar_d (se_val (pv 3)) (sar_d (se_ix (so_slot (pv 12)) (SE.so se_int) (fun _ _ => rfl)) (sar_d (se_ix (so_slot (pv 13)) (SE.so se_int) (fun _ _ => rfl)) (sar_d (se_tup (sa_cons (se_tup (sa_cons se_int sa_nil)) (sa_cons (se_ix (so_slot (pv 12)) (SE.so se_int) (fun _ _ => rfl)) sa_nil))) sar_nil))))))) (by intro _; rfl))) (sss_one (ss_ret se_bl)) sss_nil)
    (sss_cons (ss_if (st_not (st_tru (SE.so (se_call ((ok__law_refused T).mono (by decide)) hr (by rfl) T.g__law_refused T.F__law_refused.kp T.b__law_refused tk (sar_d (se_val (pv 2)) (sar_d (se_val (pv 3)) (sar_d (se_val (pv 4)) (sar_d (se_ix (so_slot (pv 13)) (SE.so se_int) (fun _ _ => rfl)) (sar_d (se_tup (sa_cons (se_tup (sa_cons se_int sa_nil)) (sa_cons (se_ix (so_slot (pv 13)) (SE.so se_int) (fun _ _ => rfl)) sa_nil))) sar_nil))))))) (by intro _; rfl))) (sss_one (ss_ret se_bl)) sss_nil)
    (sss_one (ss_ret (se_call ((ok__law_refused T).mono (by decide)) hr (by rfl) T.g__law_refused T.F__law_refused.kp T.b__law_refused tk (sar_d (se_val (pv 2)) (sar_d (se_val (pv 3)) (sar_d (se_val (pv 4)) (sar_d (se_val (pv 5)) (sar_d (se_tup (sa_cons (se_tup sa_nil) (sa_cons se_int sa_nil))) sar_nil)))))))))))))))))))))))))))))))
end
end G

namespace MAIN
open PySem L2 Z
local macro_rules | `(tactic| walk_at "zs") => `(tactic| try simp (disch := first | omega | decide | (simp only [List.length_cons, List.length_nil, List.length_append, List.length_map]; omega)) only [wp_pure, wp_bad, wp_bind, wp_opt, optQ_some, optQ_none, wp_get, wp_own, wp_val, wp_store, wp_gnm, wp_put,
  getQ_d, getQ_own, ownQ_own, valQ_d, valQ_own, valO_own, setQ_d, setQ_own, setQ_none, setQ_m, truD_bl, putQ_own, wp_op2vv, wp_op2sv, wp_op2vs, wp_op2ss, wp_op1v, wp_op1s, wp_op2Fvv, wp_op2Fsv, wp_op2Fvs, wp_op2Fss, wp_op1Fv, wp_op1Fs,
  wp_bool, wp_chain, wp_raise, wp_truv, wp_trus, wp_ite, wp_and, wp_or, wp_not, wp_andV, wp_orV, wp_notV, wp_if, wp_cons, wp_tup, wp_lst, wp_rng, wp_items, wp_rev, wp_cutv, wp_cuts, wp_cutLv, wp_cutLs, cutT_tup, cutLL_lst, cutLL_kls, toI_int,
  wp_seq, seqQ_nx, seqQ_rt, seqQ_rf, seqQ_bk, seqQ_ct, wp_nx, wp_do, wp_ret, wp_retF, wp_retO, wp_set, wp_setF, wp_ifS, wp_setIx, wp_meth1, wp_meth0, wp_asg, wp_gnil, wp_gcons, wp_gtup, wp_forS, wp_for_nil, wp_for_cons,
  turnQ_nx, turnQ_ct, turnQ_bk, turnQ_rt, turnQ_rf, wp_args_nil, wp_args_d, wp_args_tmp, wp_args_io, lendQ_own, lendQ_tre, back_own, back_st, wp_tix, wp_tlen, wp_tpop, wp_tset, wp_retT, treQ_tre, elD_d, elP_p, ownF_own, seqQ_rtr, turnQ_rtr, endQ_rtr, rvD_d, rvF_f, wp_call, wp_callF, endQ_nx, endQ_rt, endQ_rf,
  rng1_, rng2_, add_int, sub_int, mul_l, mul_r, div_int, mod_int, shr_int, shl_int, pow_int, and_int, or_int, xor_int, neg_int, eq_int, eq_str, eq_bl, ne_int, ne_str, ne_bl, lt_int, le_int, gt_int, ge_int, isN, notN, isNonD, toB_bl, len_tup, len_lst, len_kls, int_int, int_bl,
  tuple_lst, tuple_tup, list_lst, list_tup, max2_int, min2_int, idx_tup, idx_lst, idx_kls, atI_0, atI_1, atI_2, atI_3, atI_4, Int.reduceToNat, rng1_2, wp_comp, add_str, in_tup, str_0, str_1, isi_, isi2_, isB_int_non, isB_int_bl, isB_int_int, isB_int_str, isB_int_tup, isB_int_lst, isB_int_kls, isB_bool_non, isB_bool_bl, isB_bool_int, isB_bool_str, isB_bool_tup, isB_bool_lst, isB_bool_kls, isB_str_non, isB_str_bl, isB_str_int, isB_str_str, isB_str_tup, isB_str_lst, isB_str_kls, isB_tuple_non, isB_tuple_bl, isB_tuple_int, isB_tuple_str, isB_tuple_tup, isB_tuple_lst, isB_tuple_kls, isB_list_non, isB_list_bl, isB_list_int, isB_list_str, isB_list_tup, isB_list_lst, isB_list_kls, app_, setIx_0, setIx_1, setIx_2, items_lst, items_tup, items_kls, tru_int, tru_tup, tru_lst, eq_non_int, eq_int_non, ne_non_int, ne_int_non, isNon_int, isNon_str, isNon_tup, isNon_lst, isNon_bl, isNon_non, setIx_3, setIx_4, setIx_5, abs_int, revL_, rg1_, rg2_, wback, wp_isE, exQ_ex, wp_enum, wp_zip, augQ_i, wp_aug, addI_, subI_, Option.map_some,  wp_grd, wp_bmv, wp_bms, isLs_l, wp_par, ext_, bits_, wp_comp2, slotsOk_nil, slotsOk_cons, slotOk_none, slotOk_d, slotOk_st, safeD_bl, safeD_int, safeD_non, wp_itemsL, valQ_tre, itemsL_lst, wp_trlen, wp_compX, wp_zipTL, zipM_, tab_self, tab_ne, catL_, mulA_i, isA_n, isNotA_n, isA_b, isNotA_b, isBl_bl, isBl_int, isBl_str, isBl_tup, isBl_lst, isBl_non,
  List.getElem?_cons_zero, List.getElem?_cons_succ, List.set_cons_zero, List.set_cons_succ, List.map_cons, List.map_nil, List.length_cons, List.length_nil, List.take_succ_cons, List.take_zero, List.take_nil, List.cons_append, List.nil_append, List.replicate_succ, List.replicate_zero,
  Nat.reduceAdd, Nat.reduceSub, Nat.reduceLeDiff, Nat.zero_add, Nat.sub_self, Nat.add_zero, decide_true, decide_false, decide_eq_true_eq, Bool.not_eq_true', decide_eq_false_iff_not, Bool.true_and, Bool.false_and, Bool.and_true, Bool.and_false, Bool.or_true, Bool.or_false, Bool.true_or, Bool.false_or, Bool.not_true, Bool.not_false, ifQ_t, ifQ_f, Option.getD_some, Option.getD_none, ite_true, ite_false, Bool.false_eq_true, reduceIte, true_and, and_true, and_self, Nat.le_refl])
local macro_rules | `(tactic| walk_at "z0") => `(tactic| simp only [List.map_cons, List.map_nil, List.length_cons, List.length_nil, List.cons_append, List.nil_append, List.replicate_succ, List.replicate_zero, Nat.reduceAdd, Nat.reduceSub, Nat.zero_add, Nat.sub_self, Nat.add_zero])
local macro_rules | `(tactic| walk_at "nx") => `(tactic| (refine sq ?_; intro K hK; walk_at "zs"; refine hK _ _ ?_; clear hK; clear K; refine seqQ_nx.mpr ?_))
local macro_rules | `(tactic| walk_at "zg") => `(tactic| (refine wp_gnm.mpr ?_; simp only [setQ_d, setQ_own, setQ_none, setQ_m, List.getElem?_cons_zero, List.getElem?_cons_succ, List.set_cons_zero, List.set_cons_succ, Option.map_none, Option.map_some]))
set_option hygiene false in
local macro_rules | `(tactic| walk_at "st") => `(tactic| (refine fw ?_; intro K0 h0; walk_at "z0"))
set_option hygiene false in
local macro_rules | `(tactic| walk_at "go") => `(tactic| (refine sq ?_; intro K hK; walk_at "zs"))
set_option hygiene false in
local macro_rules | `(tactic| walk_at "dn") => `(tactic| (walk_at "zs"; refine hK _ _ (seqQ_nx.mpr ?_); clear hK; clear K))
set_option hygiene false in
local macro_rules | `(tactic| walk_at "rt") => `(tactic| (walk_at "zs"; refine hK _ _ (seqQ_rt.mpr (h0 _ _ ?_))))
set_option hygiene false in
local macro_rules | `(tactic| walk_at "en") => `(tactic| (walk_at "zs"; refine h0 _ _ ?_))
variable {E : Exn → En → Prop}
/-! ### the draws -/
def Pool (w : List D) : Prop := ∃ (s r : Int) (gs : List Int), w = .int s :: .int r :: gs.map D.int ∧ 0 ≤ s ∧ s < 2305843009213693951 ∧ gs.length ≤ 63
theorem popAt_2 {a b c : D} {l : List D} : popAtD (a :: b :: c :: l) (.int 2) = some (c, a :: b :: l) := by
  have e : seqIndex? 2 (a :: b :: c :: l).length = some 2 := by
    unfold seqIndex?
    simp
    omega
  simp only [popAtD, e]
  rw [if_pos (by decide)]
  rfl
theorem take {w : List D} {b : Int} {Q : RV → En → Prop} (hw : Pool w) (hb : 0 < b) (hb2 : b < 1073741824)
    (k : ∀ t w' x, 0 ≤ t → t < b → Pool w' → Q (.d (.int t)) [some (.own true w'), x]) : fwpx E G.m__law_take [.own true w, .d (.int b)] Q := by
  obtain ⟨s, r, gs, rfl, hs, hs2, hg⟩ := hw
  unfold G.m__law_take G.b__law_take
  refine fw fun K0 h0 => ?_
  walk_at "z0"
  refine sq fun K hK => ?_
  have rest : ∀ (r : Int) (gs : List Int), gs.length ≤ 63 → K .nx [some (.own true (.int s :: .int r :: gs.map D.int)), some (.d (.int b)), none, none] := fun r gs hg => by
    refine hK _ _ (seqQ_nx.mpr ?_)
    clear hK; clear K
    refine sq fun K hK => ?_
    walk_at "zs"
    refine ifQ_d (fun c => ?_) (fun c => ?_)
    · refine hK _ _ (seqQ_rt.mpr (h0 _ _ ?_))
      exact k _ _ _ (Int.emod_nonneg _ (by omega)) (Int.emod_lt_of_pos _ hb) ⟨_, _, _, rfl, hs, hs2, hg⟩
    · refine hK _ _ (seqQ_nx.mpr ?_)
      refine sq fun K hK => ?_
      walk_at "zs"
      refine hK _ _ (seqQ_nx.mpr ?_)
      have e1 := Int.emod_nonneg (s * s + 90001) (show (2305843009213693951 : Int) ≠ 0 by omega)
      have e2 := Int.emod_lt_of_pos (s * s + 90001) (show (0 : Int) < 2305843009213693951 by omega)
      generalize (s * s + 90001) % 2305843009213693951 = m at e1 e2
      walk_at "zs"
      exact h0 _ _ (k _ _ _ (Int.emod_nonneg _ (by omega)) (Int.emod_lt_of_pos _ hb) ⟨_, _, _, rfl, Int.emod_nonneg _ (by omega), Int.emod_lt_of_pos _ (by omega), hg⟩)
  walk_at "zs"
  refine ifQ_d (fun _ => ?_) (fun _ => rest r gs hg)
  refine ifQ_d (fun c => ?_) (fun _ => rest r gs hg)
  cases gs with
  | nil => simp at c
  | cons g gs =>
    simp only [List.map_cons, popAt_2]
    walk_at "zs"
    exact rest g gs (by simp at hg; omega)
theorem pool {ns : List Int} {Q : RV → En → Prop} (hn : ns.length ≤ 63) (k : ∀ w x, Pool w → Q (.fresh w) [x]) : fwpx E G.m__law_pool [.d (.kls (ns.map D.int))] Q := by
  unfold G.m__law_pool
  generalize eb : G.b__law_pool = bb
  refine fw fun K0 h0 => ?_
  subst eb
  unfold G.b__law_pool
  walk_at "z0"
  walk_at "nx"
  walk_at "nx"
  refine sq fun K hK => ?_
  walk_at "zs"
  refine wp_for (fun pre post ρ => ∃ (s : Int) (gs : List Int) (a : Option D), 0 ≤ s ∧ s < 2305843009213693951 ∧ gs.length ≤ pre.length ∧ ρ = [some (.d (.kls (ns.map D.int))), some (.d (.int s)), some (.own false (gs.map D.int)), a.map .d]) _ ⟨1009, [], none, by omega, by omega, Nat.le_refl _, rfl⟩ ?_ ?_
  · rintro pre x post ρ ee ⟨s, gs, a, h1, h2, h3, rfl⟩
    walk_at "zg"
    have hz : pre.length + (post.length + 1) = ns.length := by
      have := congrArg List.length ee
      rw [rangeL_length] at this
      simp at this
      omega
    obtain ⟨i, ei, hi0, hi1⟩ : ∃ i : Int, x = .int i ∧ 0 ≤ i ∧ i < ns.length := by
      have hx : x ∈ pre ++ x :: post := by simp
      rw [← ee, rangeL_eq] at hx
      obtain ⟨i, hi, rfl⟩ := List.mem_map.mp hx
      have := mem_ints hi
      simp only [List.length_map, Int.toNat_natCast] at this
      exact ⟨i, rfl, by omega, by omega⟩
    subst ei
    obtain ⟨v, ev, _⟩ := atI_ints (ns := ns) hi0 hi1
    refine sq fun K hK2 => ?_
    walk_at "zs"
    rw [ev]
    walk_at "zs"
    refine hK2 _ _ (seqQ_nx.mpr ?_)
    have e1 := Int.emod_nonneg (s * s + v + i + 3) (show (2305843009213693951 : Int) ≠ 0 by omega)
    have e2 := Int.emod_lt_of_pos (s * s + v + i + 3) (show (0 : Int) < 2305843009213693951 by omega)
    generalize (s * s + v + i + 3) % 2305843009213693951 = m at e1 e2
    clear hK2; clear K
    refine sq fun K hK2 => ?_
    walk_at "zs"
    refine hK2 _ _ (seqQ_nx.mpr ?_)
    have f1 := Int.emod_nonneg (m * m + 77003) (show (2305843009213693951 : Int) ≠ 0 by omega)
    have f2 := Int.emod_lt_of_pos (m * m + 77003) (show (0 : Int) < 2305843009213693951 by omega)
    generalize (m * m + 77003) % 2305843009213693951 = q at f1 f2
    walk_at "zs"
    rw [ev]
    walk_at "zs"
    refine ifQ_d (fun _ => ?_) (fun _ => ?_)
    · walk_at "zs"
      exact ⟨q, gs ++ [v], some (.int i), f1, f2, by simp; omega, by simp⟩
    · exact ⟨q, gs, some _, f1, f2, by simp; omega, rfl⟩
  · rintro ρ ⟨s, gs, a, h1, h2, h3, rfl⟩
    rw [rangeL_length, Int.toNat_natCast, List.length_map] at h3
    refine hK _ _ (seqQ_nx.mpr ?_)
    walk_at "zs"
    try refine ⟨_, catL_ (by simp; omega), ?_⟩
    exact h0 _ _ (k _ _ ⟨s, 0, gs, rfl, h1, h2, by omega⟩)
/-! ### comparing -/
inductive Sm : Nat → D → Prop
  | non (n : Nat) : Sm n .non
  | bl (n : Nat) (b : Bool) : Sm n (.bl b)
  | int (n : Nat) (i : Int) : Sm n (.int i)
  | tup (n : Nat) (xs : List D) : (∀ x ∈ xs, Sm n x) → xs.length ≤ 1000 → Sm (n + 1) (.tup xs)
theorem same (n : Nat) : ∀ {x : D} {Q : RV → En → Prop} {E : Exn → En → Prop}, Sm n x → (∀ a b, Q (.d (.bl true)) [a, b]) → fwpx E (G.m__law_same (n + 1)) [.d x, .d x] Q := by
  induction n with
  | zero =>
    intro x Q E h k
    unfold G.m__law_same G.b__law_same
    refine fw fun K0 h0 => ?_
    walk_at "z0"
    cases h with
    | non =>
      refine sq fun K hK => ?_
      walk_at "zs"
      exact hK _ _ (seqQ_rt.mpr (h0 _ _ (k _ _)))
    | bl b =>
      walk_at "nx"
      refine sq fun K hK => ?_
      walk_at "zs"
      exact hK _ _ (seqQ_rt.mpr (h0 _ _ (k _ _)))
    | int i =>
      walk_at "nx"
      walk_at "nx"
      refine sq fun K hK => ?_
      walk_at "zs"
      exact hK _ _ (seqQ_rt.mpr (h0 _ _ (k _ _)))
  | succ n ih =>
    intro x Q E h k
    rw [G.m__law_same]
    unfold G.b__law_same
    refine fw fun K0 h0 => ?_
    walk_at "z0"
    cases h with
    | non =>
      refine sq fun K hK => ?_
      walk_at "zs"
      exact hK _ _ (seqQ_rt.mpr (h0 _ _ (k _ _)))
    | bl b =>
      walk_at "nx"
      refine sq fun K hK => ?_
      walk_at "zs"
      exact hK _ _ (seqQ_rt.mpr (h0 _ _ (k _ _)))
    | int i =>
      walk_at "nx"
      walk_at "nx"
      refine sq fun K hK => ?_
      walk_at "zs"
      exact hK _ _ (seqQ_rt.mpr (h0 _ _ (k _ _)))
    | tup _ xs hx hl =>
      walk_at "nx"
      walk_at "nx"
      walk_at "nx"
      walk_at "nx"
      refine sq fun K hK => ?_
      walk_at "zs"
      refine wp_for (fun pre post ρ => ∃ a : Option D, ρ = [some (.d (.tup xs)), some (.d (.tup xs)), a.map .d]) _ ⟨none, rfl⟩ ?_ ?_
      · rintro pre y post ρ ee ⟨a, rfl⟩
        walk_at "zg"
        obtain ⟨i, rfl, hi0, hi1⟩ : ∃ i : Int, y = .int i ∧ 0 ≤ i ∧ i < xs.length := by
          have hm : y ∈ pre ++ y :: post := by simp
          rw [← ee, rangeL_eq] at hm
          obtain ⟨i, hi, rfl⟩ := List.mem_map.mp hm
          have := mem_ints hi
          exact ⟨i, rfl, by omega, by omega⟩
        obtain ⟨v, ev, hv⟩ := atI_lt hi0 hi1
        walk_at "zs"
        rw [ev]
        walk_at "zs"
        refine ih (hx v (List.mem_of_getElem? hv)) fun _ _ => ?_
        walk_at "zs"
        exact ⟨some _, rfl⟩
      · rintro ρ ⟨a, rfl⟩
        refine hK _ _ (seqQ_nx.mpr ?_)
        walk_at "zs"
        exact h0 _ _ (k _ _)
theorem at_any {xs : List D} {i : Nat} (h : i < xs.length) : atI xs (i : Int) = some (xs[i]) := atI_of (by omega) (by rw [Int.toNat_natCast]; exact List.getElem?_eq_getElem h)
theorem all_true {α : Type} (xs : List α) : allD (.lst (xs.map fun _ => D.bl true)) = some (.bl true) := by
  rw [all_map (fun _ => true)]; simp
theorem ints_nat (n : Nat) : (intsL 0 n).map D.int = (List.range n).map fun (p : Nat) => D.int (p : Int) := by
  unfold intsL
  rw [List.map_map]
  apply List.map_congr_left
  intro p _
  simp
/-- == of lists, answered -/
theorem eq_ls {n : Nat} (hn : n ≤ 64) {xs ys : List D} {c : Bool} (h1 : Pl n (.lst xs)) (h2 : Pl n (.lst ys)) (h : c = true ↔ xs = ys) : eqD (.lst xs) (.lst ys) = some (.bl c) := by
  obtain ⟨b, e, eb⟩ := eq_lsts hn h1 h2
  rw [e]
  have : b = c := by rw [Bool.eq_iff_iff, eb, h]
  rw [this]
theorem ne_ls {n : Nat} (hn : n ≤ 64) {xs ys : List D} {c : Bool} (h1 : Pl n (.lst xs)) (h2 : Pl n (.lst ys)) (h : c = true ↔ xs = ys) : neD (.lst xs) (.lst ys) = some (.bl (!c)) := by
  have e := eq_ls hn h1 h2 h
  unfold eqD at e
  unfold neD
  cases eb : eqB (.lst xs) (.lst ys) with
  | none => rw [eb] at e; cases e
  | some b => rw [eb] at e; cases e; rfl
theorem pl_ints (l : List Int) : Pl 1 (.lst (l.map D.int)) := .lst 0 _ fun x hx => by
  obtain ⟨i, _, rfl⟩ := List.mem_map.mp hx
  exact .int 0 i
theorem pl_up {n : Nat} {x : D} (h : Pl n x) : Pl (n + 1) x := by
  induction n generalizing x with
  | zero => cases h with
            | int _ i => exact .int _ i
  | succ n ih =>
    cases h with
    | int _ i => exact .int _ i
    | tup _ xs h => exact .tup _ _ fun x hx => ih (h x hx)
    | lst _ xs h => exact .lst _ _ fun x hx => ih (h x hx)
/-! ### what is wrong is refused -/
def fromTo (x : D) (a b : Int) : Bool := match x with
  | .int i => decide (a ≤ i) && decide (i ≤ b)
  | _ => false
theorem is_from_to_any {x : D} {a b : Int} {Q : RV → En → Prop} (k : ∀ u v w, Q (.d (.bl (fromTo x a b))) [u, v, w]) : fwpx E G.m_is_from_to [.d x, .d (.int a), .d (.int b)] Q := by
  unfold G.m_is_from_to G.b_is_from_to
  walk_at "st"
  walk_at "zs"
  have no : ∀ x : D, (∀ i, x ≠ .int i) → (isB .int x && !isB .bool x) = false := fun x hx => by
    cases x <;> first | rfl | exact absurd rfl (hx _)
  have int_ : ∀ (E' : Exn → En → Prop) (Q' : RV → En → Prop), (∀ a, Q' (.d (.bl (isB .int x && !isB .bool x))) [a]) → fwpx E' G.m_is_integer [.d x] Q' := fun E' Q' k' => by
    unfold G.m_is_integer G.b_is_integer
    walk_at "st"
    walk_at "zs"
    cases h : isB .int x
    · walk_at "zs"
      have := k' (some (.d x))
      rw [h, Bool.false_and] at this
      exact h0 _ _ this
    · walk_at "zs"
      have := k' (some (.d x))
      rw [h, Bool.true_and] at this
      exact h0 _ _ this
  refine int_ _ _ fun _ => ?_
  walk_at "zs"
  by_cases hx : ∃ i, x = .int i
  · obtain ⟨i, rfl⟩ := hx
    walk_at "zs"
    by_cases h1 : a ≤ i
    · simp only [h1, decide_true]
      walk_at "zs"
      have := k (some (.d (.int i))) (some (.d (.int a))) (some (.d (.int b)))
      simp only [fromTo, h1, decide_true, Bool.true_and] at this
      exact h0 _ _ this
    · simp only [h1, decide_false]
      walk_at "zs"
      have := k (some (.d (.int i))) (some (.d (.int a))) (some (.d (.int b)))
      simp only [fromTo, h1, decide_false, Bool.false_and] at this
      exact h0 _ _ this
  · have hx' : ∀ i, x ≠ .int i := fun i z => hx ⟨i, z⟩
    rw [no x hx']
    walk_at "zs"
    have := k (some (.d x)) (some (.d (.int a))) (some (.d (.int b)))
    have e : fromTo x a b = false := by cases x <;> first | rfl | exact absurd rfl (hx' _)
    rw [e] at this
    exact h0 _ _ this
theorem check_number_bad {x : D} {a b : Int} {Q : RV → En → Prop} (h : fromTo x a b = false) (k : ∀ u v w, E ⟨"BadNumber", none⟩ [u, v, w]) : fwpx E G.m_check_number [.d x, .d (.int a), .d (.int b)] Q := by
  unfold G.m_check_number G.b_check_number
  walk_at "st"
  walk_at "zs"
  refine is_from_to_any fun _ _ _ => ?_
  rw [h]
  walk_at "zs"
  exact k _ _ _
/-! ### numbers in a row -/
def Row (x : D) (xs : List D) : Prop := x = .lst xs ∨ x = .tup xs
theorem check_number {i a b : Int} {Q : RV → En → Prop} (h1 : a ≤ i) (h2 : i ≤ b) (k : ∀ v x y z, Q (.d v) [x, y, z]) : fwpx E G.m_check_number [.d (.int i), .d (.int a), .d (.int b)] Q := by
  unfold G.m_check_number G.b_check_number
  walk_at "st"
  walk_at "zs"
  refine is_from_to_any fun _ _ _ => ?_
  have e : fromTo (.int i) a b = true := by simp [fromTo, h1, h2]
  rw [e]
  walk_at "zs"
  exact h0 _ _ (k _ _ _ _)
theorem enum_at {xs : List D} {pre post : List D} {x : D} (h : enumL xs = pre ++ x :: post) : ∃ y, xs[pre.length]? = some y ∧ x = .tup [.int (pre.length : Nat), y] ∧ pre.length < xs.length := by
  have h2 : (enumL xs)[pre.length]? = some x := by rw [h]; simp
  obtain ⟨y, e1, e2⟩ := enumL_get h2
  exact ⟨y, e1, e2, (List.getElem?_eq_some_iff.mp e1).1⟩
theorem len_row {x : D} {xs : List D} (h : Row x xs) : lenD x = some (.int (xs.length : Nat)) := by rcases h with rfl | rfl <;> rfl
theorem isb_row {x : D} {xs : List D} (h : Row x xs) : (isB .list x || isB .tuple x) = true := by rcases h with rfl | rfl <;> rfl
theorem items_row {x : D} {xs : List D} (h : Row x xs) : itemsD x = some xs := by rcases h with rfl | rfl <;> rfl
theorem isi2_row {x : D} {xs : List D} (h : Row x xs) : isi2D .list .tuple x = some (.bl true) := by rcases h with rfl | rfl <;> rfl
section
variable {x : D} {xs : List D} {m : Nat} {Q : RV → En → Prop}
theorem numbers_no (h : isi2D .list .tuple x = some (.bl false)) (k : ∀ a b c, E ⟨"BadRow", some ("place", 0)⟩ [a, b, c]) : fwpx E G.m_check_numbers [.d x, .d (.int (m : Int)), .d (.int 1)] Q := by
  unfold G.m_check_numbers G.b_check_numbers
  walk_at "st"
  refine sq fun K hK => ?_
  have e : (isB .list x || isB .tuple x) = false := by
    have : some (D.bl (isB .list x || isB .tuple x)) = some (.bl false) := h
    injection this with this; injection this
  walk_at "zs"
  rw [e]
  walk_at "zs"
  refine wp_raiseP ?_
  walk_at "zs"
  exact ⟨0, rfl, k _ _ _⟩
theorem numbers_len (h : Row x xs) (hl : xs.length ≠ m) (k : ∀ a b c, E ⟨"BadRow", some ("place", 0)⟩ [a, b, c]) : fwpx E G.m_check_numbers [.d x, .d (.int (m : Int)), .d (.int 1)] Q := by
  unfold G.m_check_numbers G.b_check_numbers
  walk_at "st"
  refine sq fun K hK => ?_
  walk_at "zs"
  rw [isb_row h, len_row h]
  walk_at "zs"
  have e : ¬ ((xs.length : Int) = m) := by omega
  simp only [e, decide_false, Bool.not_false]
  walk_at "zs"
  refine wp_raiseP ?_
  walk_at "zs"
  exact ⟨0, rfl, k _ _ _⟩
theorem numbers_at {p : Nat} (h : Row x xs) (hl : xs.length = m) (hp : p < m) (ok : ∀ i y, i < p → xs[i]? = some y → fromTo y 0 1 = true) (no : ∀ y, xs[p]? = some y → fromTo y 0 1 = false) (k : ∀ a b c, E ⟨"BadRow", some ("place", (p : Int))⟩ [a, b, c]) : fwpx E G.m_check_numbers [.d x, .d (.int (m : Int)), .d (.int 1)] Q := by
  unfold G.m_check_numbers G.b_check_numbers
  walk_at "st"
  refine sq fun K hK => ?_
  walk_at "zs"
  rw [isb_row h, len_row h]
  walk_at "zs"
  have e : ((xs.length : Int) = m) := by omega
  simp only [e, decide_true, Bool.not_true]
  walk_at "zs"
  refine hK _ _ (seqQ_nx.mpr ?_)
  clear hK; clear K
  walk_at "zs"
  rw [items_row h]
  walk_at "zs"
  refine wp_for (fun pre post ρ => pre.length ≤ p ∧ ∃ a b, ρ = [some (.d x), some (.d (.int (m : Int))), some (.d (.int 1)), a, b] ∧ (a = none ∨ ∃ z, a = some (.d z)) ∧ (b = none ∨ ∃ z, b = some (.d z))) _ ⟨Nat.zero_le _, none, none, rfl, .inl rfl, .inl rfl⟩ ?_ ?_
  · rintro pre y post ρ ee ⟨hq, a, b, rfl, ha, hb⟩
    obtain ⟨z, ez, rfl, hlt⟩ := enum_at ee
    have go : wp (gtup 2 (gcons (gnm 3) (gcons (gnm 4) gnil)) (.tup [.int (pre.length : Nat), z])) [some (.d x), some (.d (.int (m : Int))), some (.d (.int 1)), a, b] fun _ ρ1 => ρ1 = [some (.d x), some (.d (.int (m : Int))), some (.d (.int 1)), some (.d (.int (pre.length : Nat))), some (.d z)] := by
      rcases ha with rfl | ⟨u, rfl⟩ <;> rcases hb with rfl | ⟨w, rfl⟩ <;> walk_at "zs"
    refine wp_mono go ?_
    rintro _ _ rfl
    walk_at "zs"
    refine is_from_to_any fun _ _ _ => ?_
    rcases Nat.lt_or_ge pre.length p with h1 | h1
    · rw [ok _ _ h1 ez]
      walk_at "zs"
      exact ⟨by simp; omega, _, _, rfl, .inr ⟨_, rfl⟩, .inr ⟨_, rfl⟩⟩
    · have : pre.length = p := by omega
      rw [no z (by rw [← this]; exact ez)]
      walk_at "zs"
      refine wp_raiseP ?_
      walk_at "zs"
      exact ⟨_, rfl, by rw [this]; exact k _ _ _⟩
  · rintro ρ ⟨hq, _⟩
    rw [enumL_length] at hq
    omega
theorem numbers_ok (h : Row x xs) (hl : xs.length = m) (ok : ∀ y ∈ xs, fromTo y 0 1 = true) (k : ∀ v a b c, Q (.d v) [a, b, c]) : fwpx E G.m_check_numbers [.d x, .d (.int (m : Int)), .d (.int 1)] Q := by
  unfold G.m_check_numbers G.b_check_numbers
  walk_at "st"
  refine sq fun K hK => ?_
  walk_at "zs"
  rw [isb_row h, len_row h]
  walk_at "zs"
  have e : ((xs.length : Int) = m) := by omega
  simp only [e, decide_true, Bool.not_true]
  walk_at "zs"
  refine hK _ _ (seqQ_nx.mpr ?_)
  clear hK; clear K
  walk_at "zs"
  rw [items_row h]
  walk_at "zs"
  refine wp_for (fun pre post ρ => ∃ a b, ρ = [some (.d x), some (.d (.int (m : Int))), some (.d (.int 1)), a, b] ∧ (a = none ∨ ∃ z, a = some (.d z)) ∧ (b = none ∨ ∃ z, b = some (.d z))) _ ⟨none, none, rfl, .inl rfl, .inl rfl⟩ ?_ ?_
  · rintro pre y post ρ ee ⟨a, b, rfl, ha, hb⟩
    obtain ⟨z, ez, rfl, hlt⟩ := enum_at ee
    have go : wp (gtup 2 (gcons (gnm 3) (gcons (gnm 4) gnil)) (.tup [.int (pre.length : Nat), z])) [some (.d x), some (.d (.int (m : Int))), some (.d (.int 1)), a, b] fun _ ρ1 => ρ1 = [some (.d x), some (.d (.int (m : Int))), some (.d (.int 1)), some (.d (.int (pre.length : Nat))), some (.d z)] := by
      rcases ha with rfl | ⟨u, rfl⟩ <;> rcases hb with rfl | ⟨w, rfl⟩ <;> walk_at "zs"
    refine wp_mono go ?_
    rintro _ _ rfl
    walk_at "zs"
    refine is_from_to_any fun _ _ _ => ?_
    rw [ok z (List.mem_of_getElem? ez)]
    walk_at "zs"
    exact ⟨_, _, rfl, .inr ⟨_, rfl⟩, .inr ⟨_, rfl⟩⟩
  · rintro ρ ⟨a, b, rfl, _⟩
    walk_at "zs"
    exact h0 _ _ (k _ _ _ _)
end
/-! ### pairs -/
abbrev Tie := Nat × Nat
def cD (c : Tie) : D := .tup [.int c.1, .int c.2]
def isP (e : D) : Bool := match e with
  | .tup ds => decide ((ds.length : Int) = 2)
  | _ => false
def okP (n : Int) (e : D) : Bool := match e with
  | .tup [.int i, .int j] => fromTo (.int i) 0 (n - 1) && (fromTo (.int j) 0 (n - 1) && decide (i < j))
  | _ => false
def pairsB (n : Int) (x : D) : Bool := match x with
  | .tup es => es.all isP && es.all (okP n)
  | _ => false
theorem map_id_D (es : List D) : es = es.map fun y => y := (List.map_id _).symm
theorem isP_cases {e : D} (h : isP e = true) : ∃ a b, e = .tup [a, b] := by
  cases e with
  | tup ds =>
    have h : (ds.length : Int) = 2 := of_decide_eq_true h
    match ds, h with
    | [a, b], _ => exact ⟨a, b, rfl⟩
    | [], h => simp at h
    | [_], h => simp at h
    | _ :: _ :: _ :: r, h => simp at h; omega
  | _ => cases h
theorem fromTo_int {a : D} {l u : Int} (h : fromTo a l u = true) : ∃ i, a = .int i := by
  cases a <;> first | exact ⟨_, rfl⟩ | cases h
theorem okP_no1 {n : Int} {a b : D} (h : fromTo a 0 (n - 1) = false) : okP n (.tup [a, b]) = false := by
  cases a <;> cases b <;> first | rfl | (simp only [okP, h, Bool.false_and])
theorem okP_no2 {n : Int} {a b : D} (h : fromTo b 0 (n - 1) = false) : okP n (.tup [a, b]) = false := by
  cases a <;> cases b <;> first | rfl | (simp only [okP, h, Bool.false_and, Bool.and_false])
theorem are_pairs_any {x : D} {n : Nat} {Q : RV → En → Prop} (hx : ∀ es, x = .tup es → es.length ≤ 1000) (k : ∀ a b, Q (.d (.bl (pairsB n x))) [a, b]) : fwpx E G.m_are_pairs [.d x, .d (.int n)] Q := by
  unfold G.m_are_pairs G.b_are_pairs
  walk_at "st"
  refine sq fun K hK => ?_
  by_cases ht : ∃ es, x = .tup es
  · obtain ⟨es, rfl⟩ := ht
    have hl := hx es rfl
    walk_at "zs"
    refine ⟨rfl, ?_⟩
    rw [show (es : List D) = es.map (fun y => y) from map_id_D es]
    refine wp_cloop_map (fun y => y) (fun _ => true) (fun y => .bl (isP y)) _ (by omega) (fun y hy => ?_) ?_
    · simp only [clr]
      walk_at "zs"
      cases y <;> walk_at "zs" <;> first | rfl | (refine ⟨?_, rfl⟩; rfl) | trivial | skip
    · rw [← map_id_D es]
      simp only [clr, rst]
      rw [filter_true, all_map isP]
      walk_at "zs"
      cases e1 : es.all isP with
      | false =>
        walk_at "zs"
        refine hK _ _ (seqQ_rt.mpr (h0 _ _ ?_))
        have := k (some (.d (.tup es))) (some (.d (.int n)))
        simp only [pairsB, e1, Bool.false_and] at this
        exact this
      | true =>
        walk_at "zs"
        refine hK _ _ (seqQ_nx.mpr ?_)
        clear hK; clear K
        walk_at "zs"
        refine ⟨rfl, ?_⟩
        rw [show (es : List D) = es.map (fun y => y) from map_id_D es]
        refine wp_cloop_map (fun y => y) (fun _ => true) (fun y => .bl (okP n y)) _ (by omega) (fun y hy => ?_) ?_
        · obtain ⟨a, b, rfl⟩ := isP_cases (List.all_eq_true.mp e1 y hy)
          simp only [clr]
          walk_at "zs"
          refine is_from_to_any fun _ _ _ => ?_
          cases ea : fromTo a 0 ((n : Int) - 1) with
          | false =>
            walk_at "zs"
            rw [okP_no1 ea]
          | true =>
            walk_at "zs"
            refine is_from_to_any fun _ _ _ => ?_
            cases eb : fromTo b 0 ((n : Int) - 1) with
            | false =>
              walk_at "zs"
              rw [okP_no2 eb]
            | true =>
              obtain ⟨i, rfl⟩ := fromTo_int ea
              obtain ⟨j, rfl⟩ := fromTo_int eb
              walk_at "zs"
              simp only [okP, ea, eb, Bool.true_and]
        · rw [← map_id_D es]
          simp only [clr, rst]
          rw [filter_true, all_map (okP n)]
          walk_at "zs"
          have := k (some (.d (.tup es))) (some (.d (.int n)))
          simp only [pairsB, e1, Bool.true_and] at this
          exact h0 _ _ this
  · have e : isB .tuple x = false := by
      cases x <;> first | rfl | exact absurd ⟨_, rfl⟩ ht
    have e2 : pairsB n x = false := by
      cases x <;> first | rfl | exact absurd ⟨_, rfl⟩ ht
    walk_at "zs"
    rw [e]
    walk_at "zs"
    refine hK _ _ (seqQ_rt.mpr (h0 _ _ ?_))
    have := k (some (.d x)) (some (.d (.int n)))
    rw [e2] at this
    exact this
/-! ### rising pairs -/
def lt2 (a b : D) : Bool := match a, b with
  | .tup [.int i, .int j], .tup [.int k, .int l] => if i = k then (if j = l then false else decide (j < l)) else decide (i < k)
  | _, _ => false
theorem okP_cases {n : Int} {e : D} (h : okP n e = true) : ∃ i j : Int, e = .tup [.int i, .int j] := by
  unfold okP at h
  split at h
  · exact ⟨_, _, rfl⟩
  · cases h
theorem lt_pairs {n : Int} {a b : D} (ha : okP n a = true) (hb : okP n b = true) : ltTD a b = some (.bl (lt2 a b)) := by
  obtain ⟨i, j, rfl⟩ := okP_cases ha
  obtain ⟨k, l, rfl⟩ := okP_cases hb
  rfl
def upB (es : List D) : Bool := (List.range (es.length - 1)).all fun k => lt2 (es.getD k .non) (es.getD (k + 1) .non)
theorem getD_at {es : List D} {i : Nat} (h : i < es.length) : atI es (i : Int) = some (es.getD i .non) := by
  rw [at_any h, List.getD_eq_getElem?_getD, List.getElem?_eq_getElem h]; rfl
theorem check_edges_any {x : D} {n : Nat} {Q : RV → En → Prop} (hx : ∀ es, x = .tup es → es.length ≤ 1000) (k : ∀ b : Bool, b = true → (∃ es, x = .tup es ∧ pairsB n x = true ∧ upB es = true) → ∀ v a c, Q (.d v) [a, c]) (kb : (pairsB n x = true → ∀ es, x = .tup es → upB es = false) → ∀ a c, E ⟨"BadCalls", none⟩ [a, c]) : fwpx E G.m_check_edges [.d (.int n), .d x] Q := by
  unfold G.m_check_edges G.b_check_edges
  walk_at "st"
  walk_at "zs"
  refine are_pairs_any hx fun _ _ => ?_
  cases e1 : pairsB n x with
  | false =>
    walk_at "zs"
    exact kb (fun z => by rw [e1] at z; cases z) _ _
  | true =>
    obtain ⟨es, rfl⟩ : ∃ es, x = .tup es := by cases x <;> first | exact ⟨_, rfl⟩ | cases e1
    have hl := hx es rfl
    have hok : ∀ y ∈ es, okP n y = true := by
      have : (es.all isP && es.all (okP n)) = true := e1
      simp only [Bool.and_eq_true] at this
      exact List.all_eq_true.mp this.2
    walk_at "zs"
    refine ⟨rfl, ?_⟩
    rw [rangeL_eq, ints_nat, show ((es.length : Int) - 1).toNat = es.length - 1 by omega]
    refine wp_cloop_map (fun (p : Nat) => D.int (p : Int)) (fun _ => true) (fun p => .bl (lt2 (es.getD p .non) (es.getD (p + 1) .non))) _ (by simp; omega) (fun p hp => ?_) ?_
    · have hp := List.mem_range.mp hp
      simp only [clr]
      walk_at "zs"
      rw [getD_at (show p < es.length by omega)]
      walk_at "zs"
      rw [show ((p : Int) + 1) = ((p + 1 : Nat) : Int) by omega, getD_at (show p + 1 < es.length by omega)]
      have m : ∀ i, i < es.length → es.getD i .non ∈ es := fun i hi => by
        rw [List.getD_eq_getElem?_getD, List.getElem?_eq_getElem hi]; exact List.getElem_mem hi
      walk_at "zs"
      rw [lt_pairs (hok _ (m p (by omega))) (hok _ (m (p + 1) (by omega)))]
      walk_at "zs"
    · simp only [clr, rst]
      rw [filter_true, all_map]
      walk_at "zs"
      cases e2 : upB es with
      | false =>
        have e2' : ((List.range (es.length - 1)).all fun p => lt2 (es.getD p .non) (es.getD (p + 1) .non)) = false := e2
        rw [e2']
        walk_at "zs"
        exact kb (fun _ es' e => by cases e; exact e2) _ _
      | true =>
        have e2' : ((List.range (es.length - 1)).all fun p => lt2 (es.getD p .non) (es.getD (p + 1) .non)) = true := e2
        rw [e2']
        walk_at "zs"
        exact h0 _ _ (k true rfl ⟨es, rfl, e1, e2⟩ _ _ _)
/-! ### the words that are said -/
def up (w : List Int) (i : Nat) (c : Int) : List Int := w.set i ((w.getD i 0 + c) % 2)
def stepW (w : List Int) (t : Tie) (c : Int) : List Int := up (up w t.1 c) t.2 c
def runW (w : List Int) (l : List (Tie × Int)) : List Int := l.foldl (fun w p => stepW w p.1 p.2) w
theorem up_length (w : List Int) (i : Nat) (c : Int) : (up w i c).length = w.length := List.length_set
theorem stepW_length (w : List Int) (t : Tie) (c : Int) : (stepW w t c).length = w.length := by rw [stepW, up_length, up_length]
theorem runW_length (l : List (Tie × Int)) : ∀ w : List Int, (runW w l).length = w.length := by
  induction l with
  | nil => intro w; rfl
  | cons p l ih => intro w; rw [runW, List.foldl_cons]; exact (ih _).trans (stepW_length _ _ _)
theorem at_w {w : List Int} {i : Nat} (h : i < w.length) : atI (w.map D.int) (i : Int) = some (.int (w.getD i 0)) :=
  atI_of (by omega) (by rw [Int.toNat_natCast, List.getElem?_map, List.getD_eq_getElem?_getD, List.getElem?_eq_getElem h]; rfl)
theorem set_w {w : List Int} {i : Nat} {v : Int} (h : i < w.length) : setIxD (w.map D.int) (.int (i : Int)) (.int v) = some ((w.set i v).map D.int) := by
  simp only [setIxD, List.length_map]
  rw [ixN_of (by omega) (by omega)]
  simp only [Option.map_some, Int.toNat_natCast, List.map_set]
theorem cut_n (xs : List D) (n : Nat) (h : xs.length ≤ n) : cutG xs none (some (n : Int)) = xs := by
  unfold cutG
  rw [HT.sIx_none]
  have := HT.sIx_nat xs.length xs.length n
  rw [this, Nat.min_eq_right h]
  simp
theorem zip_row {es xs : List D} {x : D} (h : Row x xs) : zipMT (.tup es) x = some (zipL es xs) := by rcases h with rfl | rfl <;> rfl
theorem zipL_map (ts : List Tie) (cs : List Int) : zipL (ts.map cD) (cs.map D.int) = (ts.zip cs).map fun p => D.tup [cD p.1, .int p.2] := by
  unfold zipL
  rw [List.zip_map, List.map_map]
  rfl
theorem words_said {n : Nat} {ts : List Tie} {cs ss : List Int} {x y : D} {Q : RV → En → Prop} (hn : ss.length = n) (hn2 : n ≤ 1000) (ho : ∀ t ∈ ts, t.1 < n ∧ t.2 < n) (hx : Row x (cs.map D.int)) (hy : Row y (ss.map D.int))
    (k : ∀ a b c d, Q (.d (.tup ((runW ss (ts.zip cs)).map D.int))) [a, b, c, d]) : fwpx E G.m_words_said [.d (.int n), .d (.tup (ts.map cD)), .d x, .d y] Q := by
  unfold G.m_words_said G.b_words_said
  walk_at "st"
  refine sq fun K hK => ?_
  walk_at "zs"
  rw [items_row hy]
  walk_at "zs"
  refine ⟨rfl, ?_⟩
  refine wp_cloop_map D.int (fun _ => true) D.int _ (by omega) (fun v hv => ?_) ?_
  · simp only [clr]
    walk_at "zs"
  · simp only [clr, rst]
    rw [filter_true]
    walk_at "zs"
    refine hK _ _ (seqQ_nx.mpr ?_)
    clear hK; clear K
    refine sq fun K hK => ?_
    refine wp_forS.mpr (wp_zipTT.mpr ?_)
    walk_at "zs"
    rw [zip_row hx, zipL_map]
    walk_at "zs"
    refine wp_for_map (fun p : Tie × Int => D.tup [cD p.1, .int p.2]) (ts.zip cs) (fun pre ρ => ∃ (a b c : Option D), ρ = [some (.d (.int n)), some (.d (.tup (ts.map cD))), some (.d x), some (.d y), some (.own false ((runW ss pre).map D.int)), a.map .d, b.map .d, c.map .d, none]) ⟨none, none, none, rfl⟩ ?_ ?_
    · rintro pre ⟨t, c⟩ post ρ ee ⟨a, b, c0, rfl⟩
      have ht : t ∈ ts := by
        have : (t, c) ∈ ts.zip cs := by rw [ee]; simp
        exact (List.of_mem_zip this).1
      obtain ⟨h1, h2⟩ := ho t ht
      have lw : (runW ss pre).length = n := by rw [runW_length, hn]
      have e1 : runW ss (pre ++ [(t, c)]) = stepW (runW ss pre) t c := by simp [runW, List.foldl_append]
      rw [e1]
      generalize runW ss pre = w at lw
      have go : wp (gtup 2 (gcons (gtup 2 (gcons (gnm 5) (gcons (gnm 6) gnil))) (gcons (gnm 7) gnil)) (D.tup [cD t, .int c])) [some (.d (.int n)), some (.d (.tup (ts.map cD))), some (.d x), some (.d y), some (.own false (w.map D.int)), a.map .d, b.map .d, c0.map .d, none]
          fun _ ρ1 => ρ1 = [some (.d (.int n)), some (.d (.tup (ts.map cD))), some (.d x), some (.d y), some (.own false (w.map D.int)), some (.d (.int t.1)), some (.d (.int t.2)), some (.d (.int c)), none] := by
        unfold cD
        cases a <;> cases b <;> cases c0 <;> (simp only [Option.map_none, Option.map_some]; walk_at "zs")
      refine wp_mono go ?_
      rintro _ _ rfl
      refine sq fun K hK2 => ?_
      walk_at "zs"
      rw [at_w (show t.1 < w.length by omega)]
      walk_at "zs"
      rw [set_w (show t.1 < w.length by omega)]
      walk_at "zs"
      refine hK2 _ _ (seqQ_nx.mpr ?_)
      have l2 : (up w t.1 c).length = n := by rw [up_length, lw]
      have e2 : w.set t.1 ((w.getD t.1 0 + c) % 2) = up w t.1 c := rfl
      rw [e2]
      unfold stepW
      generalize up w t.1 c = w2 at l2
      walk_at "zs"
      rw [at_w (show t.2 < w2.length by omega)]
      walk_at "zs"
      rw [set_w (show t.2 < w2.length by omega)]
      walk_at "zs"
      exact ⟨some _, some _, some _, rfl⟩
    · rintro ρ ⟨a, b, c, rfl⟩
      refine hK _ _ (seqQ_nx.mpr ?_)
      walk_at "zs"
      rw [cut_n _ _ (by rw [List.length_map, runW_length]; omega)]
      walk_at "zs"
      exact h0 _ _ (k _ _ _ _)
/-! ### good arguments, and what is wrong with others -/
structure Ties (n : Nat) (ts : List Tie) : Prop where
  ok : ∀ t ∈ ts, t.1 < t.2 ∧ t.2 < n
  up : ∀ i a b, ts[i]? = some a → ts[i + 1]? = some b → a.1 < b.1 ∨ (a.1 = b.1 ∧ a.2 < b.2)
  len : ts.length ≤ 15
def Bit (l : List Int) : Prop := ∀ x ∈ l, x = 0 ∨ x = 1
theorem bit_ok {l : List Int} (h : Bit l) : ∀ y ∈ l.map D.int, fromTo y 0 1 = true := fun y hy => by
  obtain ⟨i, hi, rfl⟩ := List.mem_map.mp hy
  rcases h i hi with rfl | rfl <;> rfl
theorem okP_tie {n : Nat} {t : Tie} (h : t.1 < t.2 ∧ t.2 < n) : okP n (cD t) = true := by
  have e1 : fromTo (.int t.1) 0 ((n : Int) - 1) = true := by simp only [fromTo, Bool.and_eq_true, decide_eq_true_eq]; omega
  have e2 : fromTo (.int t.2) 0 ((n : Int) - 1) = true := by simp only [fromTo, Bool.and_eq_true, decide_eq_true_eq]; omega
  have e3 : ((t.1 : Int) < t.2) := by omega
  simp only [okP, cD, e1, e2, e3, decide_true, Bool.and_self]
theorem lt2_tie {a b : Tie} (h : a.1 < b.1 ∨ (a.1 = b.1 ∧ a.2 < b.2)) : lt2 (cD a) (cD b) = true := by
  simp only [lt2, cD]
  rcases h with h | ⟨h1, h2⟩
  · rw [if_neg (by omega)]; exact decide_eq_true (by omega)
  · rw [if_pos (by omega), if_neg (by omega)]; exact decide_eq_true (by omega)
theorem pairs_ties {n : Nat} {ts : List Tie} (h : Ties n ts) : pairsB n (.tup (ts.map cD)) = true := by
  have e1 : (ts.map cD).all isP = true := by rw [List.all_map]; exact List.all_eq_true.mpr fun t _ => rfl
  have e2 : (ts.map cD).all (okP n) = true := by rw [List.all_map]; exact List.all_eq_true.mpr fun t ht => okP_tie (h.ok t ht)
  simp only [pairsB, e1, e2, Bool.and_self]
theorem up_ties {n : Nat} {ts : List Tie} (h : Ties n ts) : upB (ts.map cD) = true := by
  refine List.all_eq_true.mpr fun i hi => ?_
  have hi := List.mem_range.mp hi
  rw [List.length_map] at hi
  have a1 : ts[i]? = some ts[i] := List.getElem?_eq_getElem (by omega)
  have a2 : ts[i + 1]? = some ts[i + 1] := List.getElem?_eq_getElem (by omega)
  have g1 : (ts.map cD).getD i .non = cD ts[i] := by rw [List.getD_eq_getElem?_getD, List.getElem?_map, a1]; rfl
  have g2 : (ts.map cD).getD (i + 1) .non = cD ts[i + 1] := by rw [List.getD_eq_getElem?_getD, List.getElem?_map, a2]; rfl
  rw [g1, g2]
  exact lt2_tie (h.up i _ _ a1 a2)
theorem edges_ok {n : Nat} {ts : List Tie} {Q : RV → En → Prop} (h : Ties n ts) (k : ∀ v a c, Q (.d v) [a, c]) : fwpx E G.m_check_edges [.d (.int n), .d (.tup (ts.map cD))] Q :=
  check_edges_any (fun es e => by cases e; rw [List.length_map]; have := h.len; omega) (fun _ _ _ v a c => k v a c) fun z => by
    have := z (pairs_ties h) _ rfl
    rw [up_ties h] at this
    cases this
def BadE (n : Nat) (x : D) : Prop := (∀ es, x = .tup es → es.length ≤ 1000) ∧ (pairsB n x = true → ∀ es, x = .tup es → upB es = false)
theorem edges_bad {n : Nat} {x : D} {Q : RV → En → Prop} (h : BadE n x) (k : ∀ a c, E ⟨"BadCalls", none⟩ [a, c]) : fwpx E G.m_check_edges [.d (.int n), .d x] Q :=
  check_edges_any h.1 (fun _ _ ⟨es, e, e1, e2⟩ v a c => by
    have := h.2 e1 es e
    rw [e2] at this
    cases this) fun _ a c => k a c
/-- a row of numbers with something wrong: its first place -/
def BadN (m : Nat) (x : D) (p : Nat) : Prop := (isi2D .list .tuple x = some (.bl false) ∧ p = 0) ∨ ∃ xs, Row x xs ∧ ((xs.length ≠ m ∧ p = 0) ∨ (xs.length = m ∧ p < m ∧ (∀ i y, i < p → xs[i]? = some y → fromTo y 0 1 = true) ∧ ∀ y, xs[p]? = some y → fromTo y 0 1 = false))
theorem numbers_bad {m p : Nat} {x : D} {Q : RV → En → Prop} (h : BadN m x p) (k : ∀ a b c, E ⟨"BadRow", some ("place", (p : Int))⟩ [a, b, c]) : fwpx E G.m_check_numbers [.d x, .d (.int (m : Int)), .d (.int 1)] Q := by
  rcases h with ⟨h, rfl⟩ | ⟨xs, hr, ⟨h, rfl⟩ | ⟨h1, h2, h3, h4⟩⟩
  · exact numbers_no h k
  · exact numbers_len hr h k
  · exact numbers_at hr h1 h2 h3 h4 k
theorem check_bits_ok {m : Nat} {x : D} {l : List Int} {Q : RV → En → Prop} (hx : Row x (l.map D.int)) (hb : Bit l) (hl : l.length = m) (k : ∀ v a b, Q (.d v) [a, b]) : fwpx E G.m_check_bits [.d x, .d (.int (m : Int))] Q := by
  unfold G.m_check_bits G.b_check_bits
  walk_at "st"
  walk_at "zs"
  refine numbers_ok hx (by rw [List.length_map]; exact hl) (bit_ok hb) fun _ _ _ _ => ?_
  walk_at "zs"
  exact h0 _ _ (k _ _ _)
theorem check_bits_bad {m p : Nat} {x : D} {Q : RV → En → Prop} (h : BadN m x p) (k : ∀ a b, E ⟨"BadRow", some ("place", (p : Int))⟩ [a, b]) : fwpx E G.m_check_bits [.d x, .d (.int (m : Int))] Q := by
  unfold G.m_check_bits G.b_check_bits
  walk_at "st"
  walk_at "zs"
  refine numbers_bad h fun _ _ _ => ?_
  walk_at "zs"
  exact k _ _
/-! ### said, sum_said -/
def SaysX (ex : Exn) (a b c d : D) : Prop := ∀ (E : Exn → En → Prop) (Q : RV → En → Prop), (∀ o1 o2 o3 o4, E ex [o1, o2, o3, o4]) → fwpx E G.m_said [.d a, .d b, .d c, .d d] Q
def SaysOk (ws : List Int) (a b c d : D) : Prop := ∀ (E : Exn → En → Prop) (Q : RV → En → Prop), (∀ o1 o2 o3 o4, Q (.d (.tup (ws.map D.int))) [o1, o2, o3, o4]) → fwpx E G.m_said [.d a, .d b, .d c, .d d] Q
section
variable {n : Nat} {ts : List Tie} {x y z u : D} {cs ss : List Int} {p : Nat}
theorem round_ok {E : Exn → En → Prop} {Q : RV → En → Prop} (hn : 2 ≤ n) (hn2 : n ≤ 6) (h : Ties n ts) (k : ∀ v a b, Q (.d v) [a, b]) : fwpx E G.m_check_round [.d (.int n), .d (.tup (ts.map cD))] Q := by
  unfold G.m_check_round G.b_check_round
  walk_at "st"
  walk_at "go"
  refine check_number (by omega) (by omega) fun _ _ _ _ => ?_
  walk_at "dn"
  walk_at "zs"
  refine edges_ok h fun _ _ _ => ?_
  walk_at "zs"
  exact h0 _ _ (k _ _ _)
theorem says_ok (hn : 2 ≤ n) (hn2 : n ≤ 6) (h : Ties n ts) (hx : Row x (cs.map D.int)) (hc : Bit cs) (lc : cs.length = ts.length) (hy : Row y (ss.map D.int)) (hs : Bit ss) (ls : ss.length = n) : SaysOk (runW ss (ts.zip cs)) (.int n) (.tup (ts.map cD)) x y := fun E Q k => by
  unfold G.m_said G.b_said
  walk_at "st"
  walk_at "go"
  refine round_ok hn hn2 h fun _ _ _ => ?_
  walk_at "dn"
  walk_at "go"
  rw [List.length_map]
  refine check_bits_ok hx hc lc fun _ _ _ => ?_
  walk_at "dn"
  walk_at "go"
  refine check_bits_ok hy hs ls fun _ _ _ => ?_
  walk_at "dn"
  walk_at "zs"
  refine words_said ls (by omega) (fun t ht => by have := h.ok t ht; omega) hx hy fun _ _ _ _ => ?_
  walk_at "zs"
  exact h0 _ _ (k _ _ _ _)
theorem says_n (hx : fromTo x 2 6 = false) : SaysX ⟨"BadNumber", none⟩ x y z u := fun E Q k => by
  unfold G.m_said G.b_said
  walk_at "st"
  walk_at "go"
  unfold G.m_check_round
  generalize eb : G.b_check_round = bb
  refine fw fun K1 h1 => ?_
  subst eb
  unfold G.b_check_round
  walk_at "z0"
  refine sq fun K2 hK2 => ?_
  walk_at "zs"
  refine check_number_bad hx fun _ _ _ => ?_
  walk_at "zs"
  exact k _ _ _ _
theorem says_e (hn : 2 ≤ n) (hn2 : n ≤ 6) (hx : BadE n x) : SaysX ⟨"BadCalls", none⟩ (.int n) x z u := fun E Q k => by
  unfold G.m_said G.b_said
  walk_at "st"
  walk_at "go"
  unfold G.m_check_round
  generalize eb : G.b_check_round = bb
  refine fw fun K1 h1 => ?_
  subst eb
  unfold G.b_check_round
  walk_at "z0"
  refine sq fun K2 hK2 => ?_
  walk_at "zs"
  refine check_number (by omega) (by omega) fun _ _ _ _ => ?_
  walk_at "zs"
  refine hK2 _ _ (seqQ_nx.mpr ?_)
  walk_at "zs"
  refine edges_bad hx fun _ _ => ?_
  walk_at "zs"
  exact k _ _ _ _
theorem says_c (hn : 2 ≤ n) (hn2 : n ≤ 6) (h : Ties n ts) (hx : BadN ts.length x p) : SaysX ⟨"BadRow", some ("place", (p : Int))⟩ (.int n) (.tup (ts.map cD)) x u := fun E Q k => by
  unfold G.m_said G.b_said
  walk_at "st"
  walk_at "go"
  refine round_ok hn hn2 h fun _ _ _ => ?_
  walk_at "dn"
  walk_at "go"
  rw [List.length_map]
  refine check_bits_bad hx fun _ _ => ?_
  walk_at "zs"
  exact k _ _ _ _
theorem says_s (hn : 2 ≤ n) (hn2 : n ≤ 6) (h : Ties n ts) (hx : Row x (cs.map D.int)) (hc : Bit cs) (lc : cs.length = ts.length) (hy : BadN n y p) : SaysX ⟨"BadRow", some ("place", (p : Int))⟩ (.int n) (.tup (ts.map cD)) x y := fun E Q k => by
  unfold G.m_said G.b_said
  walk_at "st"
  walk_at "go"
  refine round_ok hn hn2 h fun _ _ _ => ?_
  walk_at "dn"
  walk_at "go"
  rw [List.length_map]
  refine check_bits_ok hx hc lc fun _ _ _ => ?_
  walk_at "dn"
  walk_at "go"
  refine check_bits_bad hy fun _ _ => ?_
  walk_at "zs"
  exact k _ _ _ _
end
section
variable {a b c d : D} {ws : List Int} {ex : Exn}
theorem sum_x {E : Exn → En → Prop} {Q : RV → En → Prop} (h : SaysX ex a b c d) (k : ∀ o1 o2 o3 o4, E ex [o1, o2, o3, o4]) : fwpx E G.m_sum_said [.d a, .d b, .d c, .d d] Q := by
  unfold G.m_sum_said G.b_sum_said
  walk_at "st"
  walk_at "zs"
  refine h _ _ fun _ _ _ _ => ?_
  walk_at "zs"
  exact k _ _ _ _
theorem sumT_ints (l : List Int) : sumTD (.tup (l.map D.int)) = some (.int l.sum) := by
  show (asInts (l.map D.int)).map (fun ns => D.int ns.sum) = _
  rw [asInts_map]; rfl
theorem sum_ok {E : Exn → En → Prop} {Q : RV → En → Prop} (h : SaysOk ws a b c d) (k : ∀ o1 o2 o3 o4, Q (.d (.int (ws.sum % 2))) [o1, o2, o3, o4]) : fwpx E G.m_sum_said [.d a, .d b, .d c, .d d] Q := by
  unfold G.m_sum_said G.b_sum_said
  walk_at "st"
  walk_at "zs"
  refine h _ _ fun _ _ _ _ => ?_
  walk_at "zs"
  rw [sumT_ints]
  walk_at "zs"
  exact h0 _ _ (k _ _ _ _)
end
/-! ### how the law looks at a refusal -/
theorem at_bls (bs : List Bool) {p : Nat} (h : p < bs.length) : atI (bs.map D.bl) (p : Int) = some (.bl (bs.getD p false)) :=
  atI_of (by omega) (by rw [Int.toNat_natCast, List.getElem?_map, List.getD_eq_getElem?_getD, List.getElem?_eq_getElem h]; rfl)
/-- what is told of an exception -/
inductive Told : Exn → List D → Int → Prop
  | num : Told ⟨"BadNumber", none⟩ [.int 0] 0
  | cal : Told ⟨"BadCalls", none⟩ [.int 1] 0
  | row (p : Int) : Told ⟨"BadRow", some ("place", p)⟩ [.int 3] p
theorem refusal {i : Int} {a b c d : D} {ex : Exn} {ks : List D} {p : Int} {Q : RV → En → Prop} (hi : i = 0 ∨ i = 1) (hx : Told ex ks p) (h : SaysX ex a b c d)
    (k : ∀ o1 o2 o3 o4 o5, Q (.d (.lst [.tup ks, .int p])) [o1, o2, o3, o4, o5]) : fwpx E G.m__law_refusal [.d (.int i), .d a, .d b, .d c, .d d] Q := by
  unfold G.m__law_refusal G.b__law_refusal
  walk_at "st"
  refine sq fun K hK => wp_tryM (ltrE fun C hC => ?_)
  have hand : C ex [some (.d (.int i)), some (.d a), some (.d b), some (.d c), some (.d d), none, none, none, none] := by
    cases hx
    · refine hC _ _ ?_
      refine chain_named rfl rfl (.rt (.lst [.tup [.int 0], .int 0])) [some (.d (.int i)), some (.d a), some (.d b), some (.d c), some (.d d), none, some (.d (.lst [.bl true, .bl false, .bl false, .bl false, .bl false, .bl false, .bl false, .bl false, .bl false, .bl false, .bl false, .bl false, .bl false, .bl false])), some (.d (.int 0)), none] (hK _ _ (seqQ_rt.mpr (h0 _ _ (k _ _ _ _ _)))) fun ad => ?_
      walk_at "nx"
      walk_at "nx"
      walk_at "nx"
      walk_at "nx"
      walk_at "nx"
      walk_at "nx"
      walk_at "nx"
      walk_at "zs"
      refine ⟨rfl, ?_⟩
      rw [rangeL_eq, ints_nat]
      refine wp_cloop_map (fun (p : Nat) => D.int (p : Int)) (fun p => ([true, false, false, false, false, false, false, false, false, false, false, false, false, false] : List Bool).getD p false) (fun (p : Nat) => D.int (p : Int)) _ (by simp) (fun p hp => ?_) ?_
      · have hp := List.mem_range.mp hp
        have hp2 : p < 14 := hp
        simp only [clr]
        walk_at "zs"
        have eb := at_bls [true, false, false, false, false, false, false, false, false, false, false, false, false, false] (show p < ([true, false, false, false, false, false, false, false, false, false, false, false, false, false] : List Bool).length from hp2)
        simp only [List.map_cons, List.map_nil] at eb
        rw [eb]
        walk_at "zs"
        exact ifQ_of (fun _ => by trivial) (fun _ => by trivial)
      simp only [clr, rst]
      walk_at "zs"
      exact ⟨rfl, rfl⟩
    · refine hC _ _ ?_
      refine chain_named rfl rfl (.rt (.lst [.tup [.int 1], .int 0])) [some (.d (.int i)), some (.d a), some (.d b), some (.d c), some (.d d), none, some (.d (.lst [.bl false, .bl true, .bl false, .bl false, .bl false, .bl false, .bl false, .bl false, .bl false, .bl false, .bl false, .bl false, .bl false, .bl false])), some (.d (.int 0)), none] (hK _ _ (seqQ_rt.mpr (h0 _ _ (k _ _ _ _ _)))) fun ad => ?_
      walk_at "nx"
      walk_at "nx"
      walk_at "nx"
      walk_at "nx"
      walk_at "nx"
      walk_at "nx"
      walk_at "nx"
      walk_at "zs"
      refine ⟨rfl, ?_⟩
      rw [rangeL_eq, ints_nat]
      refine wp_cloop_map (fun (p : Nat) => D.int (p : Int)) (fun p => ([false, true, false, false, false, false, false, false, false, false, false, false, false, false] : List Bool).getD p false) (fun (p : Nat) => D.int (p : Int)) _ (by simp) (fun p hp => ?_) ?_
      · have hp := List.mem_range.mp hp
        have hp2 : p < 14 := hp
        simp only [clr]
        walk_at "zs"
        have eb := at_bls [false, true, false, false, false, false, false, false, false, false, false, false, false, false] (show p < ([false, true, false, false, false, false, false, false, false, false, false, false, false, false] : List Bool).length from hp2)
        simp only [List.map_cons, List.map_nil] at eb
        rw [eb]
        walk_at "zs"
        exact ifQ_of (fun _ => by trivial) (fun _ => by trivial)
      simp only [clr, rst]
      walk_at "zs"
      exact ⟨rfl, rfl⟩
    · refine hC _ _ ?_
      refine chain_named rfl rfl (.rt (.lst [.tup [.int 3], .int p])) [some (.d (.int i)), some (.d a), some (.d b), some (.d c), some (.d d), none, some (.d (.lst [.bl false, .bl false, .bl false, .bl true, .bl false, .bl false, .bl false, .bl false, .bl false, .bl false, .bl false, .bl false, .bl false, .bl false])), some (.d (.int p)), none] (hK _ _ (seqQ_rt.mpr (h0 _ _ (k _ _ _ _ _)))) fun ad => ?_
      walk_at "nx"
      walk_at "nx"
      walk_at "nx"
      walk_at "nx"
      walk_at "nx"
      walk_at "nx"
      refine sq fun K hK => ?_
      walk_at "zs"
      refine wp_fld ?_ (by simp)
      walk_at "zs"
      refine hK _ _ (seqQ_nx.mpr ?_)
      clear hK; clear K
      walk_at "zs"
      refine ⟨rfl, ?_⟩
      rw [rangeL_eq, ints_nat]
      refine wp_cloop_map (fun (p : Nat) => D.int (p : Int)) (fun p => ([false, false, false, true, false, false, false, false, false, false, false, false, false, false] : List Bool).getD p false) (fun (p : Nat) => D.int (p : Int)) _ (by simp) (fun p hp => ?_) ?_
      · have hp := List.mem_range.mp hp
        have hp2 : p < 14 := hp
        simp only [clr]
        walk_at "zs"
        have eb := at_bls [false, false, false, true, false, false, false, false, false, false, false, false, false, false] (show p < ([false, false, false, true, false, false, false, false, false, false, false, false, false, false] : List Bool).length from hp2)
        simp only [List.map_cons, List.map_nil] at eb
        rw [eb]
        walk_at "zs"
        exact ifQ_of (fun _ => by trivial) (fun _ => by trivial)
      simp only [clr, rst]
      walk_at "zs"
      exact ⟨rfl, rfl⟩
  rcases hi with rfl | rfl
  · walk_at "zs"
    refine h _ _ fun _ _ _ _ => ?_
    walk_at "zs"
    exact hand
  · walk_at "zs"
    refine sum_x h fun _ _ _ _ => ?_
    walk_at "zs"
    exact hand
/-! ### nothing is refused; both functions -/
theorem refusal_ok {i : Int} {a b c d : D} {ws : List Int} {Q : RV → En → Prop} (hi : i = 0 ∨ i = 1) (h : SaysOk ws a b c d)
    (k : ∀ o1 o2 o3 o4 o5, Q (.d (.lst [.tup [], .int 0])) [o1, o2, o3, o4, o5]) : fwpx E G.m__law_refusal [.d (.int i), .d a, .d b, .d c, .d d] Q := by
  unfold G.m__law_refusal G.b__law_refusal
  walk_at "st"
  refine sq fun K hK => wp_tryM (ltrE fun C hC => ?_)
  have fin : K .nx [some (.d (.int i)), some (.d a), some (.d b), some (.d c), some (.d d), none, none, none, none] := by
    refine hK _ _ (seqQ_nx.mpr ?_)
    walk_at "zs"
    exact h0 _ _ (k _ _ _ _ _)
  rcases hi with rfl | rfl
  · walk_at "zs"
    refine h _ _ fun _ _ _ _ => ?_
    walk_at "zs"
    exact fin
  · walk_at "zs"
    refine sum_ok h fun _ _ _ _ => ?_
    walk_at "zs"
    exact fin
def Ref (ks : List D) (p : Int) (a b c d : D) : Prop := ∀ (i : Int), (i = 0 ∨ i = 1) → ∀ (E : Exn → En → Prop) (Q : RV → En → Prop), (∀ o1 o2 o3 o4 o5, Q (.d (.lst [.tup ks, .int p])) [o1, o2, o3, o4, o5]) → fwpx E G.m__law_refusal [.d (.int i), .d a, .d b, .d c, .d d] Q
theorem ref_x {a b c d : D} {ex : Exn} {ks : List D} {p : Int} (hx : Told ex ks p) (h : SaysX ex a b c d) : Ref ks p a b c d := fun i hi E Q k => refusal hi hx h k
theorem ref_ok {a b c d : D} {ws : List Int} (h : SaysOk ws a b c d) : Ref [] 0 a b c d := fun i hi E Q k => refusal_ok hi h k
theorem sm_int (i : Int) : Sm 9 (.int i) := .int 9 i
theorem sm_ints (l : List Int) (h : l.length ≤ 1000) : Sm 9 (.tup (l.map D.int)) := .tup 8 _ (fun x hx => by
  obtain ⟨i, _, rfl⟩ := List.mem_map.mp hx
  exact .int 8 i) (by rw [List.length_map]; exact h)
theorem refused {a b c d : D} {ks : List Int} {p : Int} {Q : RV → En → Prop} (hk : ks.length ≤ 10) (h : Ref (ks.map D.int) p a b c d) (k : ∀ o1 o2 o3 o4 o5, Q (.d (.bl true)) [o1, o2, o3, o4, o5]) : fwpx E G.m__law_refused [.d a, .d b, .d c, .d d, .d (.tup [.tup (ks.map D.int), .int p])] Q := by
  have sm : Sm 9 (.tup [.tup (ks.map D.int), .int p]) := .tup 8 _ (fun x hx => by
    rcases List.mem_cons.mp hx with rfl | hx
    · exact .tup 7 _ (fun x hx => by
        obtain ⟨i, _, rfl⟩ := List.mem_map.mp hx
        exact .int 7 i) (by rw [List.length_map]; omega)
    · rcases List.mem_cons.mp hx with rfl | hx
      · exact .int 8 p
      · cases hx) (by simp)
  unfold G.m__law_refused G.b__law_refused
  walk_at "st"
  walk_at "go"
  refine wp_for_map D.int [0, 1] (fun pre ρ => ∃ o : Option D, ρ = [some (.d a), some (.d b), some (.d c), some (.d d), some (.d (.tup [.tup (ks.map D.int), .int p])), o.map .d]) ⟨none, rfl⟩ ?_ ?_
  · rintro pre i post ρ ee ⟨o, rfl⟩
    have hi : i = 0 ∨ i = 1 := by
      have : i ∈ ([0, 1] : List Int) := by rw [ee]; simp
      simpa using this
    walk_at "zg"
    walk_at "zs"
    refine h i hi _ _ fun _ _ _ _ _ => ?_
    walk_at "zs"
    refine same 9 sm fun _ _ => ?_
    walk_at "zs"
    exact ⟨some _, rfl⟩
  · rintro ρ ⟨o, rfl⟩
    refine hK _ _ (seqQ_nx.mpr ?_)
    walk_at "zs"
    exact h0 _ _ (k _ _ _ _ _)
/-! ### the words as the law reckons them -/
theorem bit_up {w : List Int} (h : Bit w) (i : Nat) (c : Int) : Bit (up w i c) := fun x hx => by
  rcases List.mem_or_eq_of_mem_set hx with hx | rfl
  · exact h x hx
  · omega
theorem bit_step {w : List Int} (h : Bit w) (t : Tie) (c : Int) : Bit (stepW w t c) := bit_up (bit_up h _ _) _ _
theorem bit_run (l : List (Tie × Int)) : ∀ {w : List Int}, Bit w → Bit (runW w l) := by
  induction l with
  | nil => intro w h; exact h
  | cons p l ih => intro w h; rw [runW, List.foldl_cons]; exact ih (bit_step h _ _)
theorem getD_bit {w : List Int} (h : Bit w) (i : Nat) : w.getD i 0 = 0 ∨ w.getD i 0 = 1 := by
  rw [List.getD_eq_getElem?_getD]
  cases e : w[i]? with
  | none => exact .inl rfl
  | some x => exact h x (List.mem_of_getElem? e)
theorem xor_bit {a c : Int} (ha : a = 0 ∨ a = 1) (hc : c = 0 ∨ c = 1) : Builtin.bitXor a c = (a + c) % 2 := by
  rcases ha with rfl | rfl <;> rcases hc with rfl | rfl <;> decide +kernel
theorem sum_set : ∀ (w : List Int) (i : Nat) (v : Int), i < w.length → (w.set i v).sum = w.sum - w.getD i 0 + v
  | x :: w, 0, v, _ => by simp; omega
  | x :: w, i + 1, v, h => by
    have := sum_set w i v (by simpa using h)
    simp only [List.set_cons_succ, List.sum_cons, this, List.getD_cons_succ]
    omega
  | [], _, _, h => by simp at h
theorem sum_step {w : List Int} {t : Tie} {c : Int} (h1 : t.1 < w.length) (h2 : t.2 < w.length) : (stepW w t c).sum % 2 = w.sum % 2 := by
  have a1 := sum_set w t.1 ((w.getD t.1 0 + c) % 2) h1
  have a2 := sum_set (up w t.1 c) t.2 (((up w t.1 c).getD t.2 0 + c) % 2) (by rw [up_length]; exact h2)
  have e1 : up w t.1 c = w.set t.1 ((w.getD t.1 0 + c) % 2) := rfl
  have e2 : stepW w t c = (up w t.1 c).set t.2 (((up w t.1 c).getD t.2 0 + c) % 2) := rfl
  rw [e2, a2]
  rw [← e1] at a1
  rw [a1]
  omega
theorem sum_run {n : Nat} (l : List (Tie × Int)) : ∀ {w : List Int}, w.length = n → (∀ p ∈ l, p.1.1 < n ∧ p.1.2 < n) → (runW w l).sum % 2 = w.sum % 2 := by
  induction l with
  | nil => intro w _ _; rfl
  | cons p l ih =>
    intro w hw h
    obtain ⟨h1, h2⟩ := h p (by simp)
    rw [runW, List.foldl_cons]
    have := ih (w := stepW w p.1 p.2) (by rw [stepW_length]; exact hw) fun q hq => h q (List.mem_cons_of_mem _ hq)
    exact this.trans (sum_step (by omega) (by omega))
theorem law_words {n : Nat} {ts : List Tie} {cs ss : List Int} {Q : RV → En → Prop} (hn : ss.length = n) (hl : ts.length ≤ 1000) (ho : ∀ t ∈ ts, t.1 < n ∧ t.2 < n) (lc : cs.length = ts.length) (hc : Bit cs) (hs : Bit ss)
    (k : ∀ a b c, Q (.d (.lst ((runW ss (ts.zip cs)).map D.int))) [a, b, c]) : fwpx E G.m__law_words [.d (.tup (ts.map cD)), .d (.lst (cs.map D.int)), .d (.lst (ss.map D.int))] Q := by
  unfold G.m__law_words G.b__law_words
  walk_at "st"
  walk_at "nx"
  walk_at "go"
  rw [List.length_map, rangeL_eq, ints_nat, Int.toNat_natCast]
  refine wp_for_map (fun (p : Nat) => D.int (p : Int)) (List.range ts.length) (fun pre ρ => ∃ o : Option D, ρ = [some (.d (.tup (ts.map cD))), some (.d (.lst (cs.map D.int))), some (.d (.lst (ss.map D.int))), some (.own false ((runW ss ((ts.zip cs).take pre.length)).map D.int)), o.map .d]) ⟨none, rfl⟩ ?_ ?_
  · rintro pre p post ρ ee ⟨o, rfl⟩
    have hp : p = pre.length ∧ pre.length < ts.length := by
      have h2 : (List.range ts.length)[pre.length]? = some p := by rw [ee]; simp
      obtain ⟨h3, h4⟩ := List.getElem?_eq_some_iff.mp h2
      rw [List.getElem_range] at h4
      exact ⟨h4.symm, by simpa using h3⟩
    obtain ⟨rfl, hlt⟩ := hp
    have et : ts[pre.length]? = some ts[pre.length] := List.getElem?_eq_getElem hlt
    have ec : cs[pre.length]? = some cs[pre.length] := List.getElem?_eq_getElem (by omega)
    have ez : (ts.zip cs)[pre.length]? = some (ts[pre.length], cs[pre.length]) := List.getElem?_zip_eq_some.mpr ⟨et, ec⟩
    have e1 : runW ss ((ts.zip cs).take (pre ++ [pre.length]).length) = stepW (runW ss ((ts.zip cs).take pre.length)) ts[pre.length] cs[pre.length] := by
      rw [List.length_append, List.length_singleton, List.take_add_one, ez]
      simp [runW, List.foldl_append]
    obtain ⟨h1, h2⟩ := ho _ (List.mem_of_getElem? et)
    have hcb := hc _ (List.mem_of_getElem? ec)
    have lw : (runW ss ((ts.zip cs).take pre.length)).length = n := by rw [runW_length, hn]
    have bw := bit_run ((ts.zip cs).take pre.length) hs
    rw [e1]
    have at1 : atI (ts.map cD) (pre.length : Int) = some (cD ts[pre.length]) := atI_of (by omega) (by rw [Int.toNat_natCast, List.getElem?_map, et]; rfl)
    have at2 : atI (cs.map D.int) (pre.length : Int) = some (.int cs[pre.length]) := atI_of (by omega) (by rw [Int.toNat_natCast, List.getElem?_map, ec]; rfl)
    generalize runW ss ((ts.zip cs).take pre.length) = w at lw bw
    generalize ts[pre.length] = t at h1 h2 at1
    generalize cs[pre.length] = c at hcb at2
    walk_at "zg"
    refine sq fun K hK2 => ?_
    walk_at "zs"
    rw [at1]
    unfold cD
    walk_at "zs"
    rw [at_w (show t.1 < w.length by omega), at2]
    walk_at "zs"
    rw [xor_bit (getD_bit bw _) hcb]
    rw [set_w (show t.1 < w.length by omega)]
    walk_at "zs"
    refine hK2 _ _ (seqQ_nx.mpr ?_)
    have l2 : (up w t.1 c).length = n := by rw [up_length, lw]
    have b2 := bit_up bw t.1 c
    have e2 : w.set t.1 ((w.getD t.1 0 + c) % 2) = up w t.1 c := rfl
    rw [e2]
    unfold stepW
    generalize up w t.1 c = w2 at l2 b2
    have at1' : atI (ts.map fun c : Tie => D.tup [.int c.1, .int c.2]) (pre.length : Int) = some (.tup [.int t.1, .int t.2]) := at1
    walk_at "zs"
    rw [at1']
    walk_at "zs"
    rw [at_w (show t.2 < w2.length by omega), at2]
    walk_at "zs"
    rw [xor_bit (getD_bit b2 _) hcb]
    rw [set_w (show t.2 < w2.length by omega)]
    walk_at "zs"
    exact ⟨some _, rfl⟩
  · rintro ρ ⟨o, rfl⟩
    refine hK _ _ (seqQ_nx.mpr ?_)
    rw [List.length_range, List.take_of_length_le (by rw [List.length_zip]; omega)]
    walk_at "zs"
    exact h0 _ _ (k _ _ _)
/-! ### the law asks -/
theorem sumL_ints (l : List Int) : sumD (.lst (l.map D.int)) = some (.int l.sum) := by
  show (asInts (l.map D.int)).map (fun ns => D.int ns.sum) = _
  rw [asInts_map]; rfl
theorem ne_self (l : List Int) : neD (.lst (l.map D.int)) (.lst (l.map D.int)) = some (.bl false) := ne_ls (n := 1) (by omega) (pl_ints l) (pl_ints l) (c := true) (by simp)
section
variable {n : Nat} {ts : List Tie} {cs ss : List Int} {w : List D} {Q : RV → En → Prop}
theorem zip_mem (h : Ties n ts) : ∀ p ∈ ts.zip cs, p.1.1 < n ∧ p.1.2 < n := fun p hp => by
  have := h.ok p.1 (List.of_mem_zip (show (p.1, p.2) ∈ ts.zip cs from hp)).1
  omega
theorem said_fits (hw : Pool w) (hn : 2 ≤ n) (hn2 : n ≤ 6) (h : Ties n ts) (hc : Bit cs) (lc : cs.length = ts.length) (hs : Bit ss) (ls : ss.length = n)
    (k : ∀ w' a b c d, Pool w' → Q (.d (.bl true)) [some (.own true w'), a, b, c, d]) : fwpx E G.m__law_said_fits [.own true w, .d (.int n), .d (.tup (ts.map cD)), .d (.lst (cs.map D.int)), .d (.lst (ss.map D.int))] Q := by
  have hle := h.len
  have ho : ∀ t ∈ ts, t.1 < n ∧ t.2 < n := fun t ht => by have := h.ok t ht; omega
  unfold G.m__law_said_fits G.b__law_said_fits
  walk_at "st"
  walk_at "go"
  refine law_words ls (by omega) ho lc hc hs fun _ _ _ => ?_
  walk_at "dn"
  walk_at "nx"
  walk_at "nx"
  walk_at "go"
  refine take hw (by omega) (by omega) fun t w' _ h1 h2 hw' => ?_
  have sm : Sm 9 (.tup ((runW ss (ts.zip cs)).map D.int)) := sm_ints _ (by rw [runW_length]; omega)
  have par : (runW ss (ts.zip cs)).sum % 2 = ss.sum % 2 := sum_run _ ls (zip_mem h)
  have fin : ∀ w', Pool w' → K .nx [some (.own true w'), some (.d (.int n)), some (.d (.tup (ts.map cD))), some (.d (.lst (cs.map D.int))), some (.d (.lst (ss.map D.int))), some (.d (.lst ((runW ss (ts.zip cs)).map D.int))), some (.d (.lst (cs.map D.int))), some (.d (.lst (ss.map D.int))), some (.d (.tup ((runW ss (ts.zip cs)).map D.int))), some (.d (.int ((runW ss (ts.zip cs)).sum % 2)))] := fun w' hw' => by
    refine hK _ _ (seqQ_nx.mpr ?_)
    clear hK; clear K
    walk_at "go"
    rw [ne_self]
    walk_at "zs"
    rw [ne_self]
    walk_at "zs"
    rw [sumL_ints, sumL_ints]
    walk_at "zs"
    simp only [par, decide_true, Bool.not_true]
    walk_at "dn"
    walk_at "zs"
    refine same 9 sm fun _ _ => ?_
    walk_at "zs"
    rw [sumL_ints]
    walk_at "zs"
    refine same 9 (sm_int _) fun _ _ => ?_
    walk_at "zs"
    exact h0 _ _ (k _ _ _ _ _ hw')
  walk_at "zs"
  refine ifQ_d (fun _ => ?_) (fun _ => ?_)
  · refine says_ok hn hn2 h (.inl rfl) hc lc (.inl rfl) hs ls _ _ fun _ _ _ _ => ?_
    walk_at "zs"
    refine sum_ok (says_ok hn hn2 h (.inr rfl) hc lc (.inl rfl) hs ls) fun _ _ _ _ => ?_
    walk_at "zs"
    exact fin _ hw'
  · refine says_ok hn hn2 h (.inr rfl) hc lc (.inl rfl) hs ls _ _ fun _ _ _ _ => ?_
    walk_at "zs"
    refine sum_ok (says_ok hn hn2 h (.inl rfl) hc lc (.inr rfl) hs ls) fun _ _ _ _ => ?_
    walk_at "zs"
    exact fin _ hw'
end
/-! ### wrong arguments -/
theorem bad_number {w : List D} {Q : RV → En → Prop} (hw : Pool w) (k : ∀ x w', fromTo x 2 6 = false → Pool w' → Q (.d x) [some (.own true w')]) : fwpx E G.m__law_bad_number [.own true w] Q := by
  unfold G.m__law_bad_number G.b__law_bad_number
  walk_at "st"
  walk_at "zs"
  refine take hw (by omega) (by omega) fun t w' _ h1 h2 hw' => ?_
  walk_at "zs"
  obtain ⟨v, ev, hv⟩ := atI_lt (xs := [D.int 1, .int 7, .int 0, .bl true, .non, .str "3", .tup [.int 3], .int (0 - 1), .int 100000000000000000003]) h1 (by simpa using h2)
  rw [ev]
  walk_at "zs"
  refine h0 _ _ (k v _ ?_ hw')
  have hm := List.mem_of_getElem? hv
  simp only [List.mem_cons, List.not_mem_nil, or_false] at hm
  rcases hm with rfl | rfl | rfl | rfl | rfl | rfl | rfl | rfl | rfl <;> decide +kernel
theorem bad_pair {n a b : Nat} {w : List D} {Q : RV → En → Prop} (hw : Pool w) (hab : a < b) (hb : b ≤ 6) (hn : n ≤ 6) (k : ∀ x w' u v z, okP n x = false → Pool w' → Q (.d x) [some (.own true w'), u, v, z]) : fwpx E G.m__law_bad_pair [.own true w, .d (.int n), .d (.int a), .d (.int b)] Q := by
  have ft : ∀ i : Int, i < 0 ∨ (n : Int) ≤ i → fromTo (.int i) 0 ((n : Int) - 1) = false := fun i hi => by
    simp only [fromTo]
    rcases hi with hi | hi
    · simp; omega
    · simp; omega
  have lt : ∀ i j : Int, ¬ i < j → okP n (.tup [.int i, .int j]) = false := fun i j h => by simp [okP, h]
  unfold G.m__law_bad_pair G.b__law_bad_pair
  walk_at "st"
  walk_at "go"
  refine take hw (by omega) (by omega) fun t w' _ h1 h2 hw' => ?_
  walk_at "dn"
  walk_at "go"
  refine ifQ_d (fun c => ?_) (fun c => ?_)
  · obtain ⟨v, ev, hv⟩ := atI_lt (xs := [D.tup [.int b, .int a], .tup [.int a, .int a], .tup [.int a, .int n], .tup [.int (0 - 1), .int b]]) h1 (by simpa using c)
    rw [ev]
    walk_at "zs"
    refine hK _ _ (seqQ_rt.mpr (h0 _ _ (k v _ _ _ _ ?_ hw')))
    have hm := List.mem_of_getElem? hv
    simp only [List.mem_cons, List.not_mem_nil, or_false] at hm
    rcases hm with rfl | rfl | rfl | rfl
    · exact lt _ _ (by omega)
    · exact lt _ _ (by omega)
    · exact okP_no2 (ft _ (.inr (by omega)))
    · exact okP_no1 (ft _ (.inl (by omega)))
  · walk_at "dn"
    walk_at "go"
    refine ifQ_d (fun c2 => ?_) (fun c2 => ?_)
    · obtain ⟨v, ev, hv⟩ := atI_lt (xs := [D.tup [.int a, .int b, .int b], .tup [.int a], .lst [.int a, .int b], .tup [.bl false, .int b]]) (i := t - 4) (by omega) (by simp; omega)
      rw [ev]
      walk_at "zs"
      refine hK _ _ (seqQ_rt.mpr (h0 _ _ (k v _ _ _ _ ?_ hw')))
      have hm := List.mem_of_getElem? hv
      simp only [List.mem_cons, List.not_mem_nil, or_false] at hm
      rcases hm with rfl | rfl | rfl | rfl <;> rfl
    · walk_at "dn"
      walk_at "zs"
      obtain ⟨s, es⟩ : ∃ s, strD (.int (b : Int)) = some (.str s) := ⟨_, if_pos (Nat.lt_of_le_of_lt (Nat.log2_le_self _) (by rw [Int.natAbs_natCast]; omega))⟩
      rw [es]
      walk_at "zs"
      obtain ⟨v, ev, hv⟩ := atI_lt (xs := [D.non, .str "01", .tup [.int a, .str s], .tup [.int a, .int 100000000000000000000]]) (i := t - 8) (by omega) (by simp; omega)
      rw [ev]
      walk_at "zs"
      refine h0 _ _ (k v _ _ _ _ ?_ hw')
      have hm := List.mem_of_getElem? hv
      simp only [List.mem_cons, List.not_mem_nil, or_false] at hm
      rcases hm with rfl | rfl | rfl | rfl
      · rfl
      · rfl
      · rfl
      · exact okP_no2 (ft _ (.inr (by omega)))
theorem upB_mid (A B : List D) {x y : D} (h : lt2 x y = false) : upB (A ++ x :: y :: B) = false := by
  unfold upB
  rw [List.all_eq_false]
  refine ⟨A.length, List.mem_range.mpr (by simp), ?_⟩
  have e1 : (A ++ x :: y :: B).getD A.length .non = x := by simp [List.getD_eq_getElem?_getD]
  have e2 : (A ++ x :: y :: B).getD (A.length + 1) .non = y := by simp [List.getD_eq_getElem?_getD, List.getElem?_append_right]
  rw [e1, e2, h]
  simp
theorem lt2_no {a b : Tie} (h : ¬ (a.1 < b.1 ∨ (a.1 = b.1 ∧ a.2 < b.2))) : lt2 (cD a) (cD b) = false := by
  simp only [lt2, cD]
  by_cases h1 : a.1 = b.1
  · rw [if_pos (by omega)]
    split
    · rfl
    · exact decide_eq_false (by omega)
  · rw [if_neg (by omega)]; exact decide_eq_false (by omega)
theorem badE_one {n : Nat} {A B : List D} {e : D} (h : okP n e = false) (hl : (A ++ e :: B).length ≤ 1000) : BadE n (.tup (A ++ e :: B)) := by
  refine ⟨fun es z => by cases z; exact hl, fun z => ?_⟩
  have z : ((A ++ e :: B).all isP && (A ++ e :: B).all (okP n)) = true := z
  simp only [Bool.and_eq_true] at z
  have := List.all_eq_true.mp z.2 e (by simp)
  rw [h] at this
  cases this
theorem badE_mid {n : Nat} {A B : List D} {x y : D} (h : lt2 x y = false) (hl : (A ++ x :: y :: B).length ≤ 1000) : BadE n (.tup (A ++ x :: y :: B)) :=
  ⟨fun es z => by cases z; exact hl, fun _ es z => by cases z; exact upB_mid A B h⟩
theorem badE_no {n : Nat} {x : D} (h : ∀ es, x ≠ .tup es) : BadE n x := ⟨fun es z => absurd z (h es), fun _ es z => absurd z (h es)⟩
theorem add_tup {xs ys : List D} (h : xs.length + ys.length ≤ 1000) : addD (.tup xs) (.tup ys) = some (.tup (xs ++ ys)) := by
  show (if xs.length + ys.length ≤ sizeLine then some (D.tup (xs ++ ys)) else none) = _
  rw [if_pos (by rw [sizeLine_eq]; omega)]
theorem cut_to (xs : List D) {k : Nat} (h : k ≤ xs.length) : cutG xs none (some (k : Int)) = xs.take k := by
  unfold cutG
  rw [HT.sIx_none, HT.sIx_nat, Nat.min_eq_left h]
  simp
theorem cut_from (xs : List D) {k : Nat} (h : k ≤ xs.length) : cutG xs (some (k : Int)) none = xs.drop k := by
  unfold cutG
  rw [HT.sIx_none, HT.sIx_nat, Nat.min_eq_left h]
  exact List.take_of_length_le (by rw [List.length_drop]; omega)
theorem drop_cons {xs : List Tie} {k : Nat} (h : k < xs.length) : xs.drop k = xs[k] :: xs.drop (k + 1) := List.drop_eq_getElem_cons h
section
variable {n : Nat} {ts : List Tie} {w : List D} {Q : RV → En → Prop}
theorem bad_ties (hw : Pool w) (hn : 2 ≤ n) (hn2 : n ≤ 6) (h : Ties n ts) (k : ∀ x w' u v, BadE n x → Pool w' → Q (.d x) [some (.own true w'), u, v]) : fwpx E G.m__law_bad_ties [.own true w, .d (.int n), .d (.tup (ts.map cD))] Q := by
  have hle := h.len
  unfold G.m__law_bad_ties G.b__law_bad_ties
  walk_at "st"
  walk_at "go"
  refine take hw (by omega) (by omega) fun t w1 _ h1 h2 hw1 => ?_
  walk_at "dn"
  walk_at "go"
  refine ifQ_d (fun c => ?_) (fun c0 => ?_)
  · refine hK _ _ (seqQ_rt.mpr (h0 _ _ (k _ _ _ _ (badE_no fun es z => by cases z) hw1)))
  walk_at "dn"
  walk_at "go"
  refine ifQ_d (fun c => ?_) (fun c1 => ?_)
  · refine hK _ _ (seqQ_rt.mpr (h0 _ _ (k _ _ _ _ (badE_no fun es z => by cases z) hw1)))
  walk_at "dn"
  walk_at "go"
  refine ifQ_d (fun c => ?_) (fun c2 => ?_)
  · refine hK _ _ (seqQ_rt.mpr (h0 _ _ (k _ _ _ _ (badE_no fun es z => by cases z) hw1)))
  walk_at "dn"
  walk_at "go"
  rw [List.length_map]
  refine ifQ_d (fun c => ?_) (fun c3 => ?_)
  · refine bad_pair (a := 0) (b := 1) hw1 (by omega) (by omega) hn2 fun x w2 _ _ _ hx hw2 => ?_
    walk_at "zs"
    refine hK _ _ (seqQ_rt.mpr (h0 _ _ (k _ _ _ _ (badE_one (A := []) (B := []) hx (by simp)) hw2)))
  have hpos : 0 < ts.length := by omega
  walk_at "dn"
  walk_at "go"
  rw [List.length_map]
  refine take hw1 (by omega) (by omega) fun a w2 _ h3 h4 hw2 => ?_
  walk_at "dn"
  walk_at "go"
  obtain ⟨p, rfl⟩ : ∃ p : Nat, a = (p : Int) := ⟨a.toNat, by omega⟩
  have hp : p < ts.length := by omega
  have atp : ∀ i : Nat, (hi : i < ts.length) → atI (ts.map cD) (i : Int) = some (cD ts[i]) := fun i hi => atI_of (by omega) (by rw [Int.toNat_natCast, List.getElem?_map, List.getElem?_eq_getElem hi]; rfl)
  refine ifQ_d (fun c => ?_) (fun c4 => ?_)
  · rw [cut_to _ (by rw [List.length_map]; omega)]
    walk_at "zs"
    rw [atp p hp]
    walk_at "zs"
    rw [add_tup (by simp; omega)]
    walk_at "zs"
    rw [cut_from _ (by rw [List.length_map]; omega)]
    walk_at "zs"
    rw [add_tup (by simp; omega)]
    walk_at "zs"
    refine hK _ _ (seqQ_rt.mpr (h0 _ _ (k _ _ _ _ ?_ hw2)))
    rw [← List.map_take, ← List.map_drop, drop_cons hp, List.map_cons, List.append_assoc, List.singleton_append]
    refine badE_mid (lt2_no (by omega)) (by simp; omega)
  walk_at "dn"
  walk_at "go"
  rw [List.length_map]
  have rest : ∀ K : Z.Flow → En → Prop, K = K0 → wpx (fun ex ρ => E ex (ρ.take 3)) (mseq (mset 5 (mcall G.m__law_bad_pair [.io 0, .d (mval 1), .d (mop2 idxD (.val (mop2 idxD (.slot 2) (.slot 4))) (.val (mpure (.int 0)))), .d (mop2 idxD (.val (mop2 idxD (.slot 2) (.slot 4))) (.val (mpure (.int 1))))]))
      (mret (mop2 addD (.val (mop2 addD (.val (mcut (.slot 2) (mpure none) (mbind (mval 4) fun x => mbind (mopt (toI x)) fun i => mpure (some i)))) (.val (mtup (mcons (mval 5) (mpure [])))))) (.val (mcut (.slot 2) (mbind (mop2 addD (.slot 4) (.val (mpure (.int 1)))) fun x => mbind (mopt (toI x)) fun i => mpure (some i)) (mpure none))))))
      [some (.own true w2), some (.d (.int n)), some (.d (.tup (ts.map cD))), some (.d (.int t)), some (.d (.int p)), none] K := fun K eK => by
    subst eK
    obtain ⟨o1, o2⟩ := h.ok _ (List.getElem_mem hp)
    walk_at "go"
    rw [atp p hp]
    unfold cD
    walk_at "zs"
    refine bad_pair hw2 o1 (by omega) hn2 fun x w3 _ _ _ hx hw3 => ?_
    walk_at "dn"
    walk_at "zs"
    rw [cut_to _ (by rw [List.length_map]; omega)]
    walk_at "zs"
    rw [add_tup (by simp; omega)]
    walk_at "zs"
    rw [show (p : Int) + 1 = ((p + 1 : Nat) : Int) by omega, cut_from _ (by rw [List.length_map]; omega)]
    walk_at "zs"
    rw [add_tup (by simp; omega)]
    walk_at "zs"
    refine h0 _ _ (k _ _ _ _ ?_ hw3)
    rw [List.append_assoc, List.singleton_append]
    exact badE_one hx (by simp; omega)
  refine ifQ_d (fun c5 => ?_) (fun c5 => ?_)
  · refine ifQ_d (fun c6 => ?_) (fun c6 => ?_)
    · refine take hw2 (by omega) (by omega) fun b w3 _ h5 h6 hw3 => ?_
      walk_at "zs"
      obtain ⟨q, rfl⟩ : ∃ q : Nat, b = (q : Int) := ⟨b.toNat, by omega⟩
      have hq : q < ts.length := by omega
      have hq1 : q + 1 < ts.length := by omega
      rw [cut_to _ (by rw [List.length_map]; omega)]
      walk_at "zs"
      rw [show (q : Int) + 1 = ((q + 1 : Nat) : Int) by omega, atp (q + 1) hq1]
      walk_at "zs"
      rw [atp q hq]
      walk_at "zs"
      rw [add_tup (by simp; omega)]
      walk_at "zs"
      rw [show (q : Int) + 2 = ((q + 2 : Nat) : Int) by omega, cut_from _ (by rw [List.length_map]; omega)]
      walk_at "zs"
      rw [add_tup (by simp; omega)]
      walk_at "zs"
      refine hK _ _ (seqQ_rt.mpr (h0 _ _ (k _ _ _ _ ?_ hw3)))
      have := h.up q _ _ (List.getElem?_eq_getElem hq) (List.getElem?_eq_getElem hq1)
      rw [List.append_assoc]
      exact badE_mid (lt2_no (by omega)) (by simp; omega)
    · refine hK _ _ (seqQ_nx.mpr (rest _ rfl))
  · refine hK _ _ (seqQ_nx.mpr (rest _ rfl))
end
theorem cut_last_len (xs : List D) (h : 0 < xs.length) : (cutG xs none (some (-1))).length = xs.length - 1 := by
  unfold cutG
  rw [HT.sIx_none]
  have e : HT.sIx xs.length xs.length (some (-1)) = xs.length - 1 := by
    show (if (-1 : Int) < 0 then (-1 + (xs.length : Int)).toNat else min (-1 : Int).toNat xs.length) = _
    rw [if_pos (by omega)]; omega
  rw [e]
  simp
theorem mulS_ (m : Nat) (h : m ≤ 1000) : mulSD (.str "0") (.int m) = some (.str (repS "0" m)) := by
  show (if -1000 ≤ (m : Int) ∧ (m : Int) ≤ 1000 ∧ ("0" : Str).length = 1 then some (D.str (repS "0" m)) else none) = _
  rw [if_pos ⟨by omega, by omega, by decide⟩]
theorem set_D {xs : List D} {i : Nat} {v : D} (h : i < xs.length) : setIxD xs (.int (i : Int)) v = some (xs.set i v) := by
  simp only [setIxD]
  rw [ixN_of (by omega) (by omega)]
  simp only [Option.map_some, Int.toNat_natCast]
theorem badN_len {m : Nat} {x : D} {xs : List D} (hx : Row x xs) (h : xs.length ≠ m) : BadN m x 0 := .inr ⟨xs, hx, .inl ⟨h, rfl⟩⟩
theorem badN_at {m p : Nat} {x : D} {l : List Int} {ys : List D} (hl : l.length = m) (hb : Bit l) (hp : p < m) (hx : Row x ys) (ly : ys.length = m) (h1 : ∀ i, i < p → ys[i]? = (l.map D.int)[i]?) (h2 : ∀ y, ys[p]? = some y → fromTo y 0 1 = false) : BadN m x p :=
  .inr ⟨ys, hx, .inr ⟨ly, hp, fun i y hi e => by
    rw [h1 i hi] at e
    exact bit_ok hb y (List.mem_of_getElem? e), h2⟩⟩
theorem bad_bits {l : List Int} {w : List D} {Q : RV → En → Prop} (hw : Pool w) (hb : Bit l) (hl : l.length ≤ 100) (k : ∀ x w' u, ∀ p : Nat, BadN l.length x p → Pool w' → Q (.d (.lst [x, .int (p : Int)])) [some (.own true w'), u]) : fwpx E G.m__law_bad_bits [.own true w, .d (.lst (l.map D.int))] Q := by
  unfold G.m__law_bad_bits G.b__law_bad_bits
  walk_at "st"
  walk_at "go"
  refine take hw (by omega) (by omega) fun t w1 _ h1 h2 hw1 => ?_
  walk_at "dn"
  walk_at "go"
  refine ifQ_d (fun c => ?_) (fun c0 => ?_)
  · refine hK _ _ (seqQ_rt.mpr (h0 _ _ (k _ _ _ 0 (badN_len (.inl rfl) (by simp)) hw1)))
  walk_at "dn"
  walk_at "go"
  rw [List.length_map]
  have one : K (.rt (.lst [.tup (l.map D.int ++ [.int 1, .int 0]), .int 0])) [some (.own true w1), some (.d (.lst (l.map D.int))), some (.d (.int t)), none, none, none, none] :=
    hK _ _ (seqQ_rt.mpr (h0 _ _ (k _ _ _ 0 (badN_len (.inr rfl) (by simp)) hw1)))
  refine ifQ_d (fun c => ?_) (fun c1 => ?_)
  · exact one
  refine ifQ_d (fun c => ?_) (fun c2 => ?_)
  · exact one
  clear one
  have hpos : 0 < l.length := by omega
  walk_at "dn"
  walk_at "go"
  refine ifQ_d (fun c => ?_) (fun c3 => ?_)
  · refine hK _ _ (seqQ_rt.mpr (h0 _ _ (k _ _ _ 0 (badN_len (.inl rfl) (by rw [cut_last_len _ (by rw [List.length_map]; exact hpos), List.length_map]; omega)) hw1)))
  walk_at "dn"
  walk_at "go"
  refine ifQ_d (fun c => ?_) (fun c4 => ?_)
  · refine hK _ _ (seqQ_rt.mpr (h0 _ _ (k _ _ _ 0 (.inl ⟨rfl, rfl⟩) hw1)))
  walk_at "dn"
  walk_at "go"
  refine ifQ_d (fun c => ?_) (fun c5 => ?_)
  · rw [List.length_map, mulS_ _ (by omega)]
    walk_at "zs"
    refine hK _ _ (seqQ_rt.mpr (h0 _ _ (k _ _ _ 0 (.inl ⟨rfl, rfl⟩) hw1)))
  walk_at "dn"
  walk_at "nx"
  walk_at "go"
  rw [List.length_map]
  refine take hw1 (by omega) (by omega) fun a w2 _ h3 h4 hw2 => ?_
  obtain ⟨p, rfl⟩ : ∃ p : Nat, a = (p : Int) := ⟨a.toNat, by omega⟩
  have hp : p < l.length := by omega
  walk_at "dn"
  walk_at "nx"
  have wr : ∀ t : Int, 0 ≤ t → t < 8 → ∃ v, atI [D.int 2, .int (0 - 1), .bl true, .bl false, .non, .str "1", .tup [.int 0], .int 100000000000000000000] t = some v ∧ fromTo v 0 1 = false := fun t h1 h2 => by
    obtain ⟨v, ev, hv⟩ := atI_lt (xs := [D.int 2, .int (0 - 1), .bl true, .bl false, .non, .str "1", .tup [.int 0], .int 100000000000000000000]) h1 (by simpa using h2)
    refine ⟨v, ev, ?_⟩
    have hm := List.mem_of_getElem? hv
    simp only [List.mem_cons, List.not_mem_nil, or_false] at hm
    rcases hm with rfl | rfl | rfl | rfl | rfl | rfl | rfl | rfl <;> decide +kernel
  walk_at "go"
  refine take hw2 (by omega) (by omega) fun b w3 _ h5 h6 hw3 => ?_
  walk_at "zs"
  obtain ⟨v, ev, hv⟩ := wr b h5 h6
  rw [ev]
  walk_at "zs"
  rw [set_D (by rw [List.length_map]; exact hp)]
  walk_at "dn"
  walk_at "go"
  rw [List.length_map]
  walk_at "zs"
  refine take hw3 (by omega) (by omega) fun q w4 _ h7 h8 hw4 => ?_
  walk_at "dn"
  have fin : ∀ (w' ys : List D) (z : Int), Pool w' → ys.length = l.length → (∀ i, i < p → ys[i]? = (l.map D.int)[i]?) → (∀ y, ys[p]? = some y → fromTo y 0 1 = false) → wpx (fun ex ρ => E ex (ρ.take 2)) (mseq (mifS (mbool (mop2 eqD (.val (mcall G.m__law_take [.io 0, .d (mpure (.int 2))])) (.val (mpure (.int 0))))) (mret (mbind (mlst (mcons (mop1 tupleD (.slot 5)) (mcons (mval 4) (mpure [])))) fun ds => mpure (.lst ds))) (mnx))
      (mret (mbind (mlst (mcons (mval 5) (mcons (mval 4) (mpure [])))) fun ds => mpure (.lst ds))))
      [some (.own true w'), some (.d (.lst (l.map D.int))), some (.d (.int t)), some (.d (.tup [D.int 2, .int (0 - 1), .bl true, .bl false, .non, .str "1", .tup [.int 0], .int 100000000000000000000])), some (.d (.int p)), some (.own false ys), some (.d (.int z))] K0 := fun w' ys z hw' hy hy1 hy2 => by
    walk_at "go"
    refine take hw' (by omega) (by omega) fun t2 w5 _ _ _ hw5 => ?_
    walk_at "zs"
    refine ifQ_d (fun c => ?_) (fun c => ?_)
    · refine hK _ _ (seqQ_rt.mpr (h0 _ _ (k _ _ _ p (badN_at rfl hb hp (.inr rfl) hy hy1 hy2) hw5)))
    · walk_at "dn"
      walk_at "zs"
      exact h0 _ _ (k _ _ _ p (badN_at rfl hb hp (.inl rfl) hy hy1 hy2) hw5)
  have s1 : ∀ i, i < p → ((l.map D.int).set p v)[i]? = (l.map D.int)[i]? := fun i hi => List.getElem?_set_ne (by omega)
  have s2 : ∀ y, ((l.map D.int).set p v)[p]? = some y → fromTo y 0 1 = false := fun y hy => by
    rw [List.getElem?_set_self (by rw [List.length_map]; exact hp)] at hy
    cases hy; exact hv
  walk_at "go"
  refine ifQ_d (fun c => ?_) (fun c => ?_)
  · refine take hw4 (by omega) (by omega) fun b2 w5 _ h9 h10 hw5 => ?_
    walk_at "zs"
    obtain ⟨v2, ev2, hv2⟩ := wr b2 h9 h10
    rw [ev2]
    walk_at "zs"
    obtain ⟨q2, hq2⟩ : ∃ q2 : Nat, (p : Int) + q = (q2 : Int) := ⟨p + q.toNat, by omega⟩
    rw [hq2]
    rw [set_D (by rw [List.length_set, List.length_map]; omega)]
    walk_at "zs"
    refine hK _ _ (seqQ_nx.mpr (fin _ _ _ hw5 (by simp) (fun i hi => ?_) fun y hy => ?_))
    · rw [List.getElem?_set_ne (by omega)]; exact s1 i hi
    · rw [List.getElem?_set_ne (by omega)] at hy; exact s2 y hy
  · refine hK _ _ (seqQ_nx.mpr (fin _ _ _ hw4 (by simp) s1 s2))
/-! ### ties -/
def LT (a b : Tie) : Prop := a.1 < b.1 ∨ (a.1 = b.1 ∧ a.2 < b.2)
instance (a b : Tie) : Decidable (LT a b) := by unfold LT; infer_instance
def rowP (n i : Nat) : List Tie := (List.range (n - (i + 1))).map fun d => (i, i + 1 + d)
def prs (n k : Nat) : List Tie := (List.range k).flatMap (rowP n)
theorem prs_succ (n k : Nat) : prs n (k + 1) = prs n k ++ rowP n k := by
  unfold prs
  rw [List.range_succ, List.flatMap_append, List.flatMap_singleton]
theorem prs_len (n k : Nat) : (prs n k).length ≤ k * n := by
  induction k with
  | zero => simp [prs]
  | succ k ih =>
    rw [prs_succ, List.length_append, Nat.succ_mul]
    have : (rowP n k).length ≤ n := by simp [rowP]
    omega
theorem prs_ok {n : Nat} (h1 : 2 ≤ n) (h2 : n ≤ 6) : (∀ t ∈ prs n n, t.1 < t.2 ∧ t.2 < n) ∧ (prs n n).Pairwise LT ∧ (prs n n).length ≤ 15 := by
  have : n = 2 ∨ n = 3 ∨ n = 4 ∨ n = 5 ∨ n = 6 := by omega
  rcases this with rfl | rfl | rfl | rfl | rfl <;> decide
theorem ties_sub {n : Nat} {ts : List Tie} (h1 : 2 ≤ n) (h2 : n ≤ 6) (h : ts.Sublist (prs n n)) : Ties n ts := by
  obtain ⟨a, b, c⟩ := prs_ok h1 h2
  refine ⟨fun t ht => a t (h.subset ht), fun i x y hx hy => ?_, Nat.le_trans h.length_le c⟩
  have pw := List.Pairwise.sublist h b
  obtain ⟨hi, rfl⟩ := List.getElem?_eq_some_iff.mp hx
  obtain ⟨hj, rfl⟩ := List.getElem?_eq_some_iff.mp hy
  exact List.pairwise_iff_getElem.mp pw i (i + 1) hi hj (by omega)
theorem pl_tie (t : Tie) : Pl 1 (cD t) := .tup 0 _ fun x hx => by
  simp only [List.mem_cons, List.not_mem_nil, or_false] at hx
  rcases hx with rfl | rfl <;> exact .int 0 _
theorem mem_sub {xs ts : List Tie} (h : ts.Sublist xs) {t : Tie} (ht : t ∈ ts) : t ∈ xs := h.subset ht
section
variable {n : Nat} {w : List D} {Q : RV → En → Prop}
theorem law_ties (hw : Pool w) (h1 : 2 ≤ n) (h2 : n ≤ 6) (k : ∀ ts w' u, Ties n ts → Pool w' → Q (.d (.tup (ts.map cD))) [some (.own true w'), u]) : fwpx E G.m__law_ties [.own true w, .d (.int n)] Q := by
  obtain ⟨pk, _, pl⟩ := prs_ok h1 h2
  unfold G.m__law_ties G.b__law_ties
  walk_at "st"
  walk_at "nx"
  refine sq fun K hK => ?_
  walk_at "zs"
  rw [rangeL_eq, ints_nat, Int.toNat_natCast]
  refine wp_for_map (fun (p : Nat) => D.int (p : Int)) (List.range n) (fun pre ρ => ∃ a b : Option D, ρ = [some (.own true w), some (.d (.int n)), some (.own false ((prs n pre.length).map cD)), a.map .d, b.map .d, none, none, none, none, none, none]) ⟨none, none, rfl⟩ ?_ ?_
  · rintro pre i post ρ ee ⟨a, b, rfl⟩
    have hi : i = pre.length ∧ pre.length < n := by
      have h2 : (List.range n)[pre.length]? = some i := by rw [ee]; simp
      obtain ⟨h3, h4⟩ := List.getElem?_eq_some_iff.mp h2
      rw [List.getElem_range] at h4
      exact ⟨h4.symm, by simpa using h3⟩
    obtain ⟨rfl, hlt⟩ := hi
    walk_at "zg"
    walk_at "zs"
    have er : rangeL ((pre.length : Int) + 1) ((n : Int) - ((pre.length : Int) + 1)).toNat = (List.range (n - (pre.length + 1))).map fun (d : Nat) => D.int ((pre.length + 1 + d : Nat) : Int) := by
      rw [rangeL_eq, show ((n : Int) - ((pre.length : Int) + 1)).toNat = n - (pre.length + 1) by omega]
      unfold intsL
      rw [List.map_map]
      apply List.map_congr_left
      intro d _
      simp
    try rw [er]
    refine wp_for_map (fun (d : Nat) => D.int ((pre.length + 1 + d : Nat) : Int)) (List.range (n - (pre.length + 1))) (fun pre2 ρ => ∃ b : Option D, ρ = [some (.own true w), some (.d (.int n)), some (.own false ((prs n pre.length ++ pre2.map fun d => (pre.length, pre.length + 1 + d)).map cD)), some (.d (.int pre.length)), b.map .d, none, none, none, none, none, none]) ⟨b, by simp⟩ ?_ ?_
    · rintro pre2 d post2 ρ ee2 ⟨b, rfl⟩
      walk_at "zg"
      walk_at "zs"
      have hl2 : pre2.length ≤ 6 := by
        have h3 : (List.range (n - (pre.length + 1))).length = (pre2 ++ d :: post2).length := by rw [← ee2]
        simp at h3
        omega
      have hl1 : (prs n pre.length).length ≤ 36 := by
        have := prs_len n pre.length
        have : pre.length * n ≤ 6 * 6 := Nat.mul_le_mul (by omega) h2
        omega
      refine ⟨_, app_ (by simp; omega), ?_⟩
      walk_at "zs"
      refine ⟨some (.int ((pre.length + 1 + d : Nat) : Int)), ?_⟩
      rw [List.map_append, List.map_append, List.map_append, List.map_append, List.append_assoc]
      rfl
    · rintro ρ ⟨b, rfl⟩
      walk_at "zs"
      refine ⟨some (.int (pre.length : Nat)), b, ?_⟩
      rw [List.length_append, List.length_singleton, prs_succ]
      rfl
  rintro ρ ⟨a, b, rfl⟩
  rw [List.length_range]
  refine hK _ _ (seqQ_nx.mpr ?_)
  clear hK; clear K
  generalize a.map SV.d = sa
  generalize b.map SV.d = sb
  generalize hX : prs n n = X at pk pl
  have sub : ∀ {ts : List Tie}, ts.Sublist X → Ties n ts := fun {ts} h => ties_sub h1 h2 (by rw [hX]; exact h)
  walk_at "go"
  refine take hw (by omega) (by omega) fun sh w1 _ _ _ hw1 => ?_
  walk_at "dn"
  walk_at "go"
  refine ifQ_d (fun c => ?_) (fun c0 => ?_)
  · refine hK _ _ (seqQ_rt.mpr (h0 _ _ (k _ _ _ (sub (List.Sublist.refl _)) hw1)))
  walk_at "dn"
  walk_at "go"
  refine ifQ_d (fun c => ?_) (fun c1 => ?_)
  · refine ⟨rfl, ?_⟩
    refine wp_cloop_map cD (fun t => decide ((t.2 : Int) = t.1 + 1) || decide (t = (0, n - 1))) cD _ (by omega) (fun t ht => ?_) ?_
    · simp only [clr]
      have e2 : eqD (cD t) (.tup [.int 0, .int ((n : Int) - 1)]) = some (.bl (decide (t = (0, n - 1)))) := by
        obtain ⟨b, e, eb⟩ := eq_tups (n := 1) (by omega) (xs := [.int t.1, .int t.2]) (ys := [.int 0, .int ((n : Int) - 1)]) (pl_tie t) (pl_tie (0, n - 1) |> fun h => by
          have : cD (0, n - 1) = .tup [.int 0, .int ((n : Int) - 1)] := by
            unfold cD
            simp
            omega
          rw [this] at h; exact h)
        have : b = decide (t = (0, n - 1)) := by
          rw [Bool.eq_iff_iff, eb, decide_eq_true_eq]
          obtain ⟨t1, t2⟩ := t
          simp
          omega
        rw [← this]; exact e
      have e2' : eqD (.tup [.int t.1, .int t.2]) (.tup [.int 0, .int ((n : Int) - 1)]) = some (.bl (decide (t = (0, n - 1)))) := e2
      unfold cD
      walk_at "zs"
      cases hd : decide ((t.2 : Int) = t.1 + 1) with
      | true => walk_at "zs"
      | false =>
        walk_at "zs"
        rw [e2']
        walk_at "zs"
        exact ifQ_of (fun _ => by trivial) (fun _ => by trivial)
    · simp only [clr, rst]
      walk_at "zs"
      refine hK _ _ (seqQ_rt.mpr (h0 _ _ (k _ _ _ (sub List.filter_sublist) hw1)))
  walk_at "dn"
  walk_at "go"
  refine ifQ_d (fun c => ?_) (fun c2 => ?_)
  · refine take hw1 (by omega) (by omega) fun m w2 _ _ _ hw2 => ?_
    walk_at "zs"
    refine ⟨rfl, ?_⟩
    refine wp_cloop_map cD (fun t => decide (m ∈ [(t.1 : Int), (t.2 : Int)])) cD _ (by omega) (fun t ht => ?_) ?_
    · simp only [clr]
      have e2 : inD (.int m) (cD t) = some (.bl (decide (m ∈ [(t.1 : Int), (t.2 : Int)]))) := in_tup m [(t.1 : Int), (t.2 : Int)]
      walk_at "zs"
      rw [e2]
      walk_at "zs"
      exact ifQ_of (fun _ => by trivial) (fun _ => by trivial)
    · simp only [clr, rst]
      walk_at "zs"
      refine hK _ _ (seqQ_rt.mpr (h0 _ _ (k _ _ _ (sub List.filter_sublist) hw2)))
  walk_at "dn"
  have rest : ∀ (Y : List Tie) (w1 : List D) (sd : Option SV), Y.Sublist X → Pool w1 → (sd = none ∨ ∃ x, sd = some (.d x)) → wpx (fun ex ρ => E ex (ρ.take 2)) (mseq (mset 8 (mop2 addD (.val (mpure (.int 2))) (.val (mcall G.m__law_take [.io 0, .d (mpure (.int 3))]))))
      (mret (mop1 tupleD (.val (mbind (mcomp [9] (mitems (mval 2)) (gnm 9) (mbool (mop2 eqD (.val (mcall G.m__law_take [.io 0, .d (mval 8)])) (.val (mpure (.int 0))))) (mval 9)) fun ds => mpure (.lst ds))))))
      [some (.own true w1), some (.d (.int n)), some (.own false (Y.map cD)), sa, sb, some (.d (.int sh)), none, sd, none, none, none] K0 := fun Y w1 sd hY hw1 hsd => by
    have ly : Y.length ≤ 15 := Nat.le_trans hY.length_le pl
    walk_at "go"
    refine take hw1 (by omega) (by omega) fun r w2 _ r1 r2 hw2 => ?_
    walk_at "dn"
    walk_at "zs"
    refine ⟨rfl, ?_⟩
    refine wp_cloop (fun pre post acc ρ => ∃ (l : List Tie) (w' : List D), acc = l.map cD ∧ l.Sublist (Y.take pre.length) ∧ Pool w' ∧ ρ = clr [some (.own true w'), some (.d (.int n)), some (.d (.lst (Y.map cD))), sa, sb, some (.d (.int sh)), none, sd, some (.d (.int (2 + r))), none, none] [9]) _ (by rw [List.length_map]; omega) ⟨[], w2, rfl, by simp, hw2, rfl⟩ ?_ ?_ ?_
    · rintro pre post acc ρ ⟨l, w', rfl, hl, _, _⟩
      rw [List.length_map]
      exact Nat.le_trans hl.length_le (by rw [List.length_take]; omega)
    · rintro pre x post acc ρ ee ⟨l, w', rfl, hl, hw', rfl⟩
      have hx : ∃ t, Y[pre.length]? = some t ∧ x = cD t := by
        have h2 : (Y.map cD)[pre.length]? = some x := by rw [ee]; simp
        rw [List.getElem?_map] at h2
        cases h3 : Y[pre.length]? with
        | none => rw [h3] at h2; cases h2
        | some t => rw [h3] at h2; cases h2; exact ⟨t, rfl, rfl⟩
      obtain ⟨t, et, rfl⟩ := hx
      have etk : Y.take (pre ++ [cD t]).length = Y.take pre.length ++ [t] := by
        rw [List.length_append, List.length_singleton, List.take_add_one, et]; rfl
      simp only [clr]
      walk_at "zs"
      refine take hw' (by omega) (by omega) fun q w3 _ _ _ hw3 => ?_
      walk_at "zs"
      refine ifQ_d (fun c => ?_) (fun c => ?_)
      · walk_at "zs"
        refine ⟨l ++ [t], w3, by simp, ?_, hw3, rfl⟩
        rw [etk]
        exact List.Sublist.append hl (List.Sublist.refl _)
      · refine ⟨l, w3, rfl, ?_, hw3, rfl⟩
        rw [etk]
        exact hl.trans (List.sublist_append_left _ _)
    · rintro acc ρ ⟨l, w', rfl, hl, hw', rfl⟩
      simp only [clr, rst]
      walk_at "zs"
      refine h0 _ _ (k _ _ _ (sub ?_) hw')
      exact (hl.trans (List.take_sublist _ _)).trans hY
  walk_at "go"
  refine ifQ_d (fun c => ?_) (fun c3 => ?_)
  · refine ⟨rfl, ?_⟩
    rw [rangeL_eq, ints_nat, Int.toNat_natCast]
    refine wp_cloop (fun pre post acc ρ => ∃ (l : List Int) (w' : List D), acc = l.map D.int ∧ l.length = pre.length ∧ Pool w' ∧ ρ = clr [some (.own true w'), some (.d (.int n)), some (.own false (X.map cD)), sa, sb, some (.d (.int sh)), none, none, none, none, none] [10]) _ (by simp; omega) ⟨[], w1, rfl, rfl, hw1, rfl⟩ ?_ ?_ ?_
    · rintro pre post acc ρ ⟨l, w', rfl, hl, _, _⟩
      rw [List.length_map]
      omega
    · rintro pre x post acc ρ ee ⟨l, w', rfl, hl, hw', rfl⟩
      simp only [clr]
      walk_at "zs"
      refine take hw' (by omega) (by omega) fun q w3 _ _ _ hw3 => ?_
      walk_at "zs"
      exact ⟨l ++ [q], w3, by simp, by simp [hl], hw3, rfl⟩
    · rintro acc ρ ⟨l, w2, rfl, hl, hw2, rfl⟩
      simp only [clr, rst]
      walk_at "zs"
      rw [List.length_map, List.length_range] at hl
      refine ⟨rfl, ?_⟩
      refine wp_cloop_map cD (fun t => decide (l.getD t.1 0 = l.getD t.2 0)) cD _ (by omega) (fun t ht => ?_) ?_
      · obtain ⟨b1, b2⟩ := pk t ht
        try simp only [clr]
        have g : ∀ i : Nat, i < n → atI (l.map D.int) (i : Int) = some (.int (l.getD i 0)) := fun i hi => at_w (by omega)
        unfold cD
        walk_at "zs"
        rw [g t.1 (by omega)]
        walk_at "zs"
        rw [g t.2 (by omega)]
        walk_at "zs"
        exact ifQ_of (fun _ => by trivial) (fun _ => by trivial)
      · try simp only [clr, rst]
        walk_at "zs"
        refine hK _ _ (seqQ_nx.mpr ?_)
        exact rest _ w2 (some (.d (.lst (l.map D.int)))) List.filter_sublist hw2 (.inr ⟨_, rfl⟩)
  · refine hK _ _ (seqQ_nx.mpr (rest X w1 none (List.Sublist.refl _) hw1 (.inl rfl)))
end
theorem bit_draws {l : List Int} {q : Int} (h : Bit l) (h1 : 0 ≤ q) (h2 : q < 2) : Bit (l ++ [q]) := fun x hx => by
  rcases List.mem_append.mp hx with hx | hx
  · exact h x hx
  · have : x = q := by simpa using hx
    omega
theorem bit_turn {l : List Int} (h : Bit l) (i : Nat) : Bit (l.set i (1 - l.getD i 0)) := fun x hx => by
  rcases List.mem_or_eq_of_mem_set hx with hx | rfl
  · exact h x hx
  · have := getD_bit h i
    omega
theorem main : ∀ ns : List Int, ns.length ≤ 63 → ∃ outs, G.m_law (lawArg ns) = .ok (.d (.bl true)) outs := by
  intro ns hns
  suffices h : fwp G.m_law (lawArg ns) fun rv _ => rv = .d (.bl true) by
    obtain ⟨x, outs, e, rfl⟩ := fwp_ok h
    exact ⟨outs, e⟩
  unfold G.m_law G.b_law lawArg
  walk_at "st"
  walk_at "go"
  refine pool hns fun w _ hw => ?_
  walk_at "dn"
  walk_at "go"
  refine take hw (by omega) (by omega) fun t w _ t0 t1 hw => ?_
  obtain ⟨n, en, hn, hn2⟩ : ∃ n : Nat, 2 + t = (n : Int) ∧ 2 ≤ n ∧ n ≤ 6 := ⟨(2 + t).toNat, by omega, by omega, by omega⟩
  walk_at "zs"
  rw [en]
  walk_at "dn"
  walk_at "go"
  refine law_ties hw hn hn2 fun ts w _ ht hw => ?_
  have hle := ht.len
  walk_at "dn"
  walk_at "go"
  refine ⟨rfl, ?_⟩
  rw [List.length_map, rangeL_eq, ints_nat, Int.toNat_natCast]
  refine wp_cloop (fun pre post acc ρ => ∃ (l : List Int) (w' : List D), acc = l.map D.int ∧ l.length = pre.length ∧ Bit l ∧ Pool w' ∧ ρ = clr [some (.d (.kls (ns.map D.int))), some (.own false w'), some (.d (.int n)), some (.d (.tup (ts.map cD))), none, none, none, none, none, none, none, none, none, none, none] [14]) _ (by simp; omega) ⟨[], w, rfl, rfl, (fun x hx => by cases hx), hw, rfl⟩ ?_ ?_ ?_
  · rintro pre post acc ρ ⟨l, w', rfl, hl, _⟩
    rw [List.length_map]; omega
  · rintro pre x post acc ρ ee ⟨l, w', rfl, hl, hb, hw', rfl⟩
    simp only [clr]
    walk_at "zs"
    refine take hw' (by omega) (by omega) fun q w3 _ q1 q2 hw3 => ?_
    walk_at "zs"
    exact ⟨l ++ [q], w3, by simp, by simp [hl], bit_draws hb q1 q2, hw3, rfl⟩
  rintro acc ρ ⟨cs, w, rfl, lc, hc, hw, rfl⟩
  rw [List.length_map, List.length_range] at lc
  simp only [clr, rst]
  walk_at "dn"
  walk_at "go"
  refine ⟨rfl, ?_⟩
  rw [rangeL_eq, ints_nat, Int.toNat_natCast]
  refine wp_cloop (fun pre post acc ρ => ∃ (l : List Int) (w' : List D), acc = l.map D.int ∧ l.length = pre.length ∧ Bit l ∧ Pool w' ∧ ρ = clr [some (.d (.kls (ns.map D.int))), some (.own false w'), some (.d (.int n)), some (.d (.tup (ts.map cD))), some (.d (.lst (cs.map D.int))), none, none, none, none, none, none, none, none, none, none] [14]) _ (by simp; omega) ⟨[], w, rfl, rfl, (fun x hx => by cases hx), hw, rfl⟩ ?_ ?_ ?_
  · rintro pre post acc ρ ⟨l, w', rfl, hl, _⟩
    rw [List.length_map]; omega
  · rintro pre x post acc ρ ee ⟨l, w', rfl, hl, hb, hw', rfl⟩
    simp only [clr]
    walk_at "zs"
    refine take hw' (by omega) (by omega) fun q w3 _ q1 q2 hw3 => ?_
    walk_at "zs"
    exact ⟨l ++ [q], w3, by simp, by simp [hl], bit_draws hb q1 q2, hw3, rfl⟩
  rintro acc ρ ⟨ss, w, rfl, ls, hs, hw, rfl⟩
  rw [List.length_map, List.length_range] at ls
  simp only [clr, rst]
  walk_at "dn"
  walk_at "go"
  refine said_fits hw hn hn2 ht hc lc hs ls fun w _ _ _ _ hw => ?_
  walk_at "dn"
  walk_at "nx"
  walk_at "go"
  refine take hw (by omega) (by omega) fun who w _ w0 w1 hw => ?_
  obtain ⟨p, rfl⟩ : ∃ p : Nat, who = (p : Int) := ⟨who.toNat, by omega⟩
  have hp : p < ss.length := by omega
  walk_at "dn"
  walk_at "go"
  rw [at_w hp]
  walk_at "zs"
  rw [set_w hp]
  walk_at "dn"
  walk_at "go"
  refine said_fits hw hn hn2 ht hc lc (bit_turn hs p) (by rw [List.length_set]; exact ls) fun w _ _ _ _ hw => ?_
  walk_at "dn"
  generalize D.lst ((ss.set p (1 - ss.getD p 0)).map D.int) = turned
  have rest : ∀ (w : List D) (s8 s9 : Option SV), Pool w → (s8 = none ∨ ∃ x, s8 = some (.d x)) → (s9 = none ∨ ∃ x, s9 = some (.d x)) → ∀ K : Z.Flow → En → Prop, (∀ ρ, K (.rt (.bl true)) ρ) → wp (mseq (mset 10 (mcall G.m__law_bad_number [.io 1]))
  (mseq (mset 11 (mcall G.m__law_bad_ties [.io 1, .d (mval 2), .d (mval 3)]))
  (mseq (mset 12 (mcall G.m__law_bad_bits [.io 1, .d (mval 4)]))
  (mseq (mset 13 (mcall G.m__law_bad_bits [.io 1, .d (mval 5)]))
  (mseq (mifS (mnot (mtru (.val (mcall G.m__law_refused [.d (mval 10), .d (mval 3), .d (mval 4), .d (mval 5), .d (mtup (mcons (mtup (mcons (mpure (.int 0)) (mpure []))) (mcons (mpure (.int 0)) (mpure []))))])))) (mret (mpure (.bl false))) (mnx))
  (mseq (mifS (mnot (mtru (.val (mcall G.m__law_refused [.d (mval 10), .d (mval 11), .d (mval 4), .d (mval 5), .d (mtup (mcons (mtup (mcons (mpure (.int 0)) (mpure []))) (mcons (mpure (.int 0)) (mpure []))))])))) (mret (mpure (.bl false))) (mnx))
  (mseq (mifS (mnot (mtru (.val (mcall G.m__law_refused [.d (mval 2), .d (mval 11), .d (mval 4), .d (mval 5), .d (mtup (mcons (mtup (mcons (mpure (.int 1)) (mpure []))) (mcons (mpure (.int 0)) (mpure []))))])))) (mret (mpure (.bl false))) (mnx))
  (mseq (mifS (mnot (mtru (.val (mcall G.m__law_refused [.d (mval 2), .d (mval 11), .d (mop2 idxD (.slot 12) (.val (mpure (.int 0)))), .d (mval 5), .d (mtup (mcons (mtup (mcons (mpure (.int 1)) (mpure []))) (mcons (mpure (.int 0)) (mpure []))))])))) (mret (mpure (.bl false))) (mnx))
  (mseq (mifS (mnot (mtru (.val (mcall G.m__law_refused [.d (mval 2), .d (mval 3), .d (mop2 idxD (.slot 12) (.val (mpure (.int 0)))), .d (mval 5), .d (mtup (mcons (mtup (mcons (mpure (.int 3)) (mpure []))) (mcons (mop2 idxD (.slot 12) (.val (mpure (.int 1)))) (mpure []))))])))) (mret (mpure (.bl false))) (mnx))
  (mseq (mifS (mnot (mtru (.val (mcall G.m__law_refused [.d (mval 2), .d (mval 3), .d (mop2 idxD (.slot 12) (.val (mpure (.int 0)))), .d (mop2 idxD (.slot 13) (.val (mpure (.int 0)))), .d (mtup (mcons (mtup (mcons (mpure (.int 3)) (mpure []))) (mcons (mop2 idxD (.slot 12) (.val (mpure (.int 1)))) (mpure []))))])))) (mret (mpure (.bl false))) (mnx))
  (mseq (mifS (mnot (mtru (.val (mcall G.m__law_refused [.d (mval 2), .d (mval 3), .d (mval 4), .d (mop2 idxD (.slot 13) (.val (mpure (.int 0)))), .d (mtup (mcons (mtup (mcons (mpure (.int 3)) (mpure []))) (mcons (mop2 idxD (.slot 13) (.val (mpure (.int 1)))) (mpure []))))])))) (mret (mpure (.bl false))) (mnx))
  (mret (mcall G.m__law_refused [.d (mval 2), .d (mval 3), .d (mval 4), .d (mval 5), .d (mtup (mcons (mtup (mpure [])) (mcons (mpure (.int 0)) (mpure []))))])))))))))))))
      [some (.d (.kls (ns.map D.int))), some (.own false w), some (.d (.int n)), some (.d (.tup (ts.map cD))), some (.d (.lst (cs.map D.int))), some (.d (.lst (ss.map D.int))), some (.d turned), some (.d (.int p)), s8, s9, none, none, none, none, none] K := fun w s8 s9 hw _ _ K0 h0 => by
    walk_at "go"
    refine bad_number hw fun wr w hx hw => ?_
    walk_at "dn"
    walk_at "go"
    refine bad_ties hw hn hn2 ht fun ct w _ _ hE hw => ?_
    walk_at "dn"
    walk_at "go"
    refine bad_bits hw hc (by omega) fun od w _ po hod hw => ?_
    walk_at "dn"
    walk_at "go"
    refine bad_bits hw hs (by omega) fun lo w _ pl hlo hw => ?_
    walk_at "dn"
    rw [lc] at hod
    rw [ls] at hlo
    walk_at "go"
    refine refused (ks := [0]) (p := 0) (by simp) (ref_x .num (says_n hx)) fun _ _ _ _ _ => ?_
    walk_at "dn"
    walk_at "go"
    refine refused (ks := [0]) (p := 0) (by simp) (ref_x .num (says_n hx)) fun _ _ _ _ _ => ?_
    walk_at "dn"
    walk_at "go"
    refine refused (ks := [1]) (p := 0) (by simp) (ref_x .cal (says_e hn hn2 hE)) fun _ _ _ _ _ => ?_
    walk_at "dn"
    walk_at "go"
    refine refused (ks := [1]) (p := 0) (by simp) (ref_x .cal (says_e hn hn2 hE)) fun _ _ _ _ _ => ?_
    walk_at "dn"
    walk_at "go"
    refine refused (ks := [3]) (p := po) (by simp) (ref_x (.row _) (says_c hn hn2 ht hod)) fun _ _ _ _ _ => ?_
    walk_at "dn"
    walk_at "go"
    refine refused (ks := [3]) (p := po) (by simp) (ref_x (.row _) (says_c hn hn2 ht hod)) fun _ _ _ _ _ => ?_
    walk_at "dn"
    walk_at "go"
    refine refused (ks := [3]) (p := pl) (by simp) (ref_x (.row _) (says_s hn hn2 ht (.inl rfl) hc lc hlo)) fun _ _ _ _ _ => ?_
    walk_at "dn"
    walk_at "zs"
    refine refused (ks := []) (p := 0) (by simp) (ref_ok (says_ok hn hn2 ht (.inl rfl) hc lc (.inl rfl) hs ls)) fun _ _ _ _ _ => ?_
    walk_at "zs"
    exact h0 _
  walk_at "go"
  rw [List.length_map]
  refine ifQ_d (fun c => ?_) (fun c => ?_)
  · walk_at "zs"
    refine take hw (by omega) (by omega) fun a w _ a0 a1 hw => ?_
    obtain ⟨q, rfl⟩ : ∃ q : Nat, a = (q : Int) := ⟨a.toNat, by omega⟩
    have hq : q < cs.length := by omega
    walk_at "zs"
    rw [at_w hq]
    walk_at "zs"
    rw [set_w hq]
    walk_at "zs"
    refine said_fits hw hn hn2 ht (bit_turn hc q) (by rw [List.length_set]; exact lc) hs ls fun w _ _ _ _ hw => ?_
    walk_at "zs"
    refine hK _ _ (seqQ_nx.mpr ?_)
    exact rest w _ _ hw (.inr ⟨_, rfl⟩) (.inr ⟨_, rfl⟩) _ fun ρ => h0 _ _ rfl
  · refine hK _ _ (seqQ_nx.mpr ?_)
    exact rest w none none hw (.inl rfl) (.inl rfl) _ fun ρ => h0 _ _ rfl
end MAIN

namespace GE
open PySem L2 Z
theorem all_mk {l : PySem.W.OpenLaw} {w : World} {K : PySem.W.Frag} {h : Heap} {mg : Str → Option Value} {fa f0 f1 f2 f3 f4 f5 f6 f7 f8 f9 f10 f11 f12 f13 f14 f15 f16 f17 f18 f19 f20 f21 f22 f23 e_JointError e_BadGroup e_BadTable e_BadText e_BadNumber e_BadWorlds e_BadSteps e_BadCalls e_BadDeals e_NotThere e_TooLarge e_NothingDone e_BadRow e_BadLine : Addr} (main : ∀ ns : List Int, ns.length ≤ 63 → ∃ outs, G.m_law (lawArg ns) = .ok (.d (.bl true)) outs) (X : K.In h) (Gm : h.Ns mainGlobals mg) (hfa : mg "law" = some (.ref fa))
    {od0 an0 od1 an1 od2 an2 od3 an3 od4 an4 od5 an5 od6 an6 od7 an7 od8 an8 od9 an9 od10 an10 od11 an11 od12 an12 od13 an13 od14 an14 od15 an15 od16 an16 od17 an17 od18 an18 od19 an19 od20 an20 od21 an21 od22 an22 od23 an23 : Option Addr} {sl0 sl1 sl2 sl3 sl4 sl5 sl6 sl7 sl8 sl9 sl10 sl11 sl12 sl13 sl14 sl15 sl16 sl17 sl18 sl19 sl20 sl21 sl22 sl23 : Array (Option Value)} {oc0 kV0 dc0 pm0 cd0 ct0 oc1 kV1 dc1 pm1 cd1 ct1 oc2 kV2 dc2 pm2 cd2 ct2 oc3 kV3 dc3 pm3 cd3 ct3 oc4 kV4 dc4 pm4 cd4 ct4 oc5 kV5 dc5 pm5 cd5 ct5 oc6 kV6 dc6 pm6 cd6 ct6 oc7 kV7 dc7 pm7 cd7 ct7 oc8 kV8 dc8 pm8 cd8 ct8 oc9 kV9 dc9 pm9 cd9 ct9 oc10 kV10 dc10 pm10 cd10 ct10 oc11 kV11 dc11 pm11 cd11 ct11 oc12 kV12 dc12 pm12 cd12 ct12 oc13 kV13 dc13 pm13 cd13 ct13 oc14 kV14 dc14 pm14 cd14 ct14 oc15 kV15 dc15 pm15 cd15 ct15 oc16 kV16 dc16 pm16 cd16 ct16 oc17 kV17 dc17 pm17 cd17 ct17 oc18 kV18 dc18 pm18 cd18 ct18 oc19 kV19 dc19 pm19 cd19 ct19 oc20 kV20 dc20 pm20 cd20 ct20 oc21 kV21 dc21 pm21 cd21 ct21 oc22 kV22 dc22 pm22 cd22 ct22 oc23 kV23 dc23 pm23 cd23 ct23 : Value} {u_MOST_PEOPLE : Tok} {fI_BadRow cdI_BadRow ccI_BadRow : Addr} {ocI_BadRow kVI_BadRow dcI_BadRow pmI_BadRow ctI_BadRow cfI_BadRow cnI_BadRow : Value} {odI_BadRow anI_BadRow dfI_BadRow dnI_BadRow : Option Addr} {slI_BadRow sfI_BadRow snI_BadRow : Array (Option Value)} {qI_BadRow fiI_BadRow : Str} {vfI_BadRow : Array Value} {tfI_BadRow : Tok}
    (a0 : PySem.W.nsIn K mainGlobals "is_integer" = some (some (.ref f0))) (l0 : K.lookup f0 = some ⟨oc0, od0, .func (PySem.W.fnOf "is_integer" "is_integer" (defArgs G.s_is_integer) (defBody G.s_is_integer) (defScope G.s_is_integer) .none kV0 dc0 pm0 an0 cd0 ct0), sl0⟩) (c0 : PySem.W.codeIn K cd0 "is_integer" = true) (k0 : PySem.W.keepIn K (.ref f0) = true)
    (a1 : PySem.W.nsIn K mainGlobals "is_from_to" = some (some (.ref f1))) (l1 : K.lookup f1 = some ⟨oc1, od1, .func (PySem.W.fnOf "is_from_to" "is_from_to" (defArgs G.s_is_from_to) (defBody G.s_is_from_to) (defScope G.s_is_from_to) .none kV1 dc1 pm1 an1 cd1 ct1), sl1⟩) (c1 : PySem.W.codeIn K cd1 "is_from_to" = true) (k1 : PySem.W.keepIn K (.ref f1) = true)
    (a2 : PySem.W.nsIn K mainGlobals "check_number" = some (some (.ref f2))) (l2 : K.lookup f2 = some ⟨oc2, od2, .func (PySem.W.fnOf "check_number" "check_number" (defArgs G.s_check_number) (defBody G.s_check_number) (defScope G.s_check_number) .none kV2 dc2 pm2 an2 cd2 ct2), sl2⟩) (c2 : PySem.W.codeIn K cd2 "check_number" = true) (k2 : PySem.W.keepIn K (.ref f2) = true)
    (a3 : PySem.W.nsIn K mainGlobals "check_numbers" = some (some (.ref f3))) (l3 : K.lookup f3 = some ⟨oc3, od3, .func (PySem.W.fnOf "check_numbers" "check_numbers" (defArgs G.s_check_numbers) (defBody G.s_check_numbers) (defScope G.s_check_numbers) .none kV3 dc3 pm3 an3 cd3 ct3), sl3⟩) (c3 : PySem.W.codeIn K cd3 "check_numbers" = true) (k3 : PySem.W.keepIn K (.ref f3) = true)
    (a4 : PySem.W.nsIn K mainGlobals "are_pairs" = some (some (.ref f4))) (l4 : K.lookup f4 = some ⟨oc4, od4, .func (PySem.W.fnOf "are_pairs" "are_pairs" (defArgs G.s_are_pairs) (defBody G.s_are_pairs) (defScope G.s_are_pairs) .none kV4 dc4 pm4 an4 cd4 ct4), sl4⟩) (c4 : PySem.W.codeIn K cd4 "are_pairs" = true) (k4 : PySem.W.keepIn K (.ref f4) = true)
    (a5 : PySem.W.nsIn K mainGlobals "check_edges" = some (some (.ref f5))) (l5 : K.lookup f5 = some ⟨oc5, od5, .func (PySem.W.fnOf "check_edges" "check_edges" (defArgs G.s_check_edges) (defBody G.s_check_edges) (defScope G.s_check_edges) .none kV5 dc5 pm5 an5 cd5 ct5), sl5⟩) (c5 : PySem.W.codeIn K cd5 "check_edges" = true) (k5 : PySem.W.keepIn K (.ref f5) = true)
    (a6 : PySem.W.nsIn K mainGlobals "check_bits" = some (some (.ref f6))) (l6 : K.lookup f6 = some ⟨oc6, od6, .func (PySem.W.fnOf "check_bits" "check_bits" (defArgs G.s_check_bits) (defBody G.s_check_bits) (defScope G.s_check_bits) .none kV6 dc6 pm6 an6 cd6 ct6), sl6⟩) (c6 : PySem.W.codeIn K cd6 "check_bits" = true) (k6 : PySem.W.keepIn K (.ref f6) = true)
    (a7 : PySem.W.nsIn K mainGlobals "check_round" = some (some (.ref f7))) (l7 : K.lookup f7 = some ⟨oc7, od7, .func (PySem.W.fnOf "check_round" "check_round" (defArgs G.s_check_round) (defBody G.s_check_round) (defScope G.s_check_round) .none kV7 dc7 pm7 an7 cd7 ct7), sl7⟩) (c7 : PySem.W.codeIn K cd7 "check_round" = true) (k7 : PySem.W.keepIn K (.ref f7) = true)
    (a8 : PySem.W.nsIn K mainGlobals "words_said" = some (some (.ref f8))) (l8 : K.lookup f8 = some ⟨oc8, od8, .func (PySem.W.fnOf "words_said" "words_said" (defArgs G.s_words_said) (defBody G.s_words_said) (defScope G.s_words_said) .none kV8 dc8 pm8 an8 cd8 ct8), sl8⟩) (c8 : PySem.W.codeIn K cd8 "words_said" = true) (k8 : PySem.W.keepIn K (.ref f8) = true)
    (a9 : PySem.W.nsIn K mainGlobals "said" = some (some (.ref f9))) (l9 : K.lookup f9 = some ⟨oc9, od9, .func (PySem.W.fnOf "said" "said" (defArgs G.s_said) (defBody G.s_said) (defScope G.s_said) .none kV9 dc9 pm9 an9 cd9 ct9), sl9⟩) (c9 : PySem.W.codeIn K cd9 "said" = true) (k9 : PySem.W.keepIn K (.ref f9) = true)
    (a10 : PySem.W.nsIn K mainGlobals "sum_said" = some (some (.ref f10))) (l10 : K.lookup f10 = some ⟨oc10, od10, .func (PySem.W.fnOf "sum_said" "sum_said" (defArgs G.s_sum_said) (defBody G.s_sum_said) (defScope G.s_sum_said) .none kV10 dc10 pm10 an10 cd10 ct10), sl10⟩) (c10 : PySem.W.codeIn K cd10 "sum_said" = true) (k10 : PySem.W.keepIn K (.ref f10) = true)
    (a11 : PySem.W.nsIn K mainGlobals "_law_pool" = some (some (.ref f11))) (l11 : K.lookup f11 = some ⟨oc11, od11, .func (PySem.W.fnOf "_law_pool" "_law_pool" (defArgs G.s__law_pool) (defBody G.s__law_pool) (defScope G.s__law_pool) .none kV11 dc11 pm11 an11 cd11 ct11), sl11⟩) (c11 : PySem.W.codeIn K cd11 "_law_pool" = true) (k11 : PySem.W.keepIn K (.ref f11) = true)
    (a12 : PySem.W.nsIn K mainGlobals "_law_take" = some (some (.ref f12))) (l12 : K.lookup f12 = some ⟨oc12, od12, .func (PySem.W.fnOf "_law_take" "_law_take" (defArgs G.s__law_take) (defBody G.s__law_take) (defScope G.s__law_take) .none kV12 dc12 pm12 an12 cd12 ct12), sl12⟩) (c12 : PySem.W.codeIn K cd12 "_law_take" = true) (k12 : PySem.W.keepIn K (.ref f12) = true)
    (a13 : PySem.W.nsIn K mainGlobals "_law_same" = some (some (.ref f13))) (l13 : K.lookup f13 = some ⟨oc13, od13, .func (PySem.W.fnOf "_law_same" "_law_same" (defArgs G.s__law_same) (defBody G.s__law_same) (defScope G.s__law_same) .none kV13 dc13 pm13 an13 cd13 ct13), sl13⟩) (c13 : PySem.W.codeIn K cd13 "_law_same" = true) (k13 : PySem.W.keepIn K (.ref f13) = true)
    (a14 : PySem.W.nsIn K mainGlobals "_law_ties" = some (some (.ref f14))) (l14 : K.lookup f14 = some ⟨oc14, od14, .func (PySem.W.fnOf "_law_ties" "_law_ties" (defArgs G.s__law_ties) (defBody G.s__law_ties) (defScope G.s__law_ties) .none kV14 dc14 pm14 an14 cd14 ct14), sl14⟩) (c14 : PySem.W.codeIn K cd14 "_law_ties" = true) (k14 : PySem.W.keepIn K (.ref f14) = true)
    (a15 : PySem.W.nsIn K mainGlobals "_law_words" = some (some (.ref f15))) (l15 : K.lookup f15 = some ⟨oc15, od15, .func (PySem.W.fnOf "_law_words" "_law_words" (defArgs G.s__law_words) (defBody G.s__law_words) (defScope G.s__law_words) .none kV15 dc15 pm15 an15 cd15 ct15), sl15⟩) (c15 : PySem.W.codeIn K cd15 "_law_words" = true) (k15 : PySem.W.keepIn K (.ref f15) = true)
    (a16 : PySem.W.nsIn K mainGlobals "_law_said_fits" = some (some (.ref f16))) (l16 : K.lookup f16 = some ⟨oc16, od16, .func (PySem.W.fnOf "_law_said_fits" "_law_said_fits" (defArgs G.s__law_said_fits) (defBody G.s__law_said_fits) (defScope G.s__law_said_fits) .none kV16 dc16 pm16 an16 cd16 ct16), sl16⟩) (c16 : PySem.W.codeIn K cd16 "_law_said_fits" = true) (k16 : PySem.W.keepIn K (.ref f16) = true)
    (a17 : PySem.W.nsIn K mainGlobals "_law_bad_number" = some (some (.ref f17))) (l17 : K.lookup f17 = some ⟨oc17, od17, .func (PySem.W.fnOf "_law_bad_number" "_law_bad_number" (defArgs G.s__law_bad_number) (defBody G.s__law_bad_number) (defScope G.s__law_bad_number) .none kV17 dc17 pm17 an17 cd17 ct17), sl17⟩) (c17 : PySem.W.codeIn K cd17 "_law_bad_number" = true) (k17 : PySem.W.keepIn K (.ref f17) = true)
    (a18 : PySem.W.nsIn K mainGlobals "_law_bad_pair" = some (some (.ref f18))) (l18 : K.lookup f18 = some ⟨oc18, od18, .func (PySem.W.fnOf "_law_bad_pair" "_law_bad_pair" (defArgs G.s__law_bad_pair) (defBody G.s__law_bad_pair) (defScope G.s__law_bad_pair) .none kV18 dc18 pm18 an18 cd18 ct18), sl18⟩) (c18 : PySem.W.codeIn K cd18 "_law_bad_pair" = true) (k18 : PySem.W.keepIn K (.ref f18) = true)
    (a19 : PySem.W.nsIn K mainGlobals "_law_bad_ties" = some (some (.ref f19))) (l19 : K.lookup f19 = some ⟨oc19, od19, .func (PySem.W.fnOf "_law_bad_ties" "_law_bad_ties" (defArgs G.s__law_bad_ties) (defBody G.s__law_bad_ties) (defScope G.s__law_bad_ties) .none kV19 dc19 pm19 an19 cd19 ct19), sl19⟩) (c19 : PySem.W.codeIn K cd19 "_law_bad_ties" = true) (k19 : PySem.W.keepIn K (.ref f19) = true)
    (a20 : PySem.W.nsIn K mainGlobals "_law_bad_bits" = some (some (.ref f20))) (l20 : K.lookup f20 = some ⟨oc20, od20, .func (PySem.W.fnOf "_law_bad_bits" "_law_bad_bits" (defArgs G.s__law_bad_bits) (defBody G.s__law_bad_bits) (defScope G.s__law_bad_bits) .none kV20 dc20 pm20 an20 cd20 ct20), sl20⟩) (c20 : PySem.W.codeIn K cd20 "_law_bad_bits" = true) (k20 : PySem.W.keepIn K (.ref f20) = true)
    (a21 : PySem.W.nsIn K mainGlobals "_law_refusal" = some (some (.ref f21))) (l21 : K.lookup f21 = some ⟨oc21, od21, .func (PySem.W.fnOf "_law_refusal" "_law_refusal" (defArgs G.s__law_refusal) (defBody G.s__law_refusal) (defScope G.s__law_refusal) .none kV21 dc21 pm21 an21 cd21 ct21), sl21⟩) (c21 : PySem.W.codeIn K cd21 "_law_refusal" = true) (k21 : PySem.W.keepIn K (.ref f21) = true)
    (a22 : PySem.W.nsIn K mainGlobals "_law_refused" = some (some (.ref f22))) (l22 : K.lookup f22 = some ⟨oc22, od22, .func (PySem.W.fnOf "_law_refused" "_law_refused" (defArgs G.s__law_refused) (defBody G.s__law_refused) (defScope G.s__law_refused) .none kV22 dc22 pm22 an22 cd22 ct22), sl22⟩) (c22 : PySem.W.codeIn K cd22 "_law_refused" = true) (k22 : PySem.W.keepIn K (.ref f22) = true)
    (a23 : PySem.W.nsIn K mainGlobals "law" = some (some (.ref f23))) (l23 : K.lookup f23 = some ⟨oc23, od23, .func (PySem.W.fnOf "law" "law" (defArgs G.s_law) (defBody G.s_law) (defScope G.s_law) .none kV23 dc23 pm23 an23 cd23 ct23), sl23⟩) (c23 : PySem.W.codeIn K cd23 "law" = true) (k23 : PySem.W.keepIn K (.ref f23) = true)
    (z_ValueError : PySem.W.nsIn K mainGlobals "ValueError" = some none)
    (z_all : PySem.W.nsIn K mainGlobals "all" = some none)
    (z_bool : PySem.W.nsIn K mainGlobals "bool" = some none)
    (z_enumerate : PySem.W.nsIn K mainGlobals "enumerate" = some none)
    (z_int : PySem.W.nsIn K mainGlobals "int" = some none)
    (z_isinstance : PySem.W.nsIn K mainGlobals "isinstance" = some none)
    (z_len : PySem.W.nsIn K mainGlobals "len" = some none)
    (z_list : PySem.W.nsIn K mainGlobals "list" = some none)
    (z_range : PySem.W.nsIn K mainGlobals "range" = some none)
    (z_str : PySem.W.nsIn K mainGlobals "str" = some none)
    (z_sum : PySem.W.nsIn K mainGlobals "sum" = some none)
    (z_tuple : PySem.W.nsIn K mainGlobals "tuple" = some none)
    (z_zip : PySem.W.nsIn K mainGlobals "zip" = some none)
    (c_JointError : PySem.W.nsIn K mainGlobals "JointError" = some (some (.ref e_JointError)))
    (c_BadGroup : PySem.W.nsIn K mainGlobals "BadGroup" = some (some (.ref e_BadGroup)))
    (c_BadTable : PySem.W.nsIn K mainGlobals "BadTable" = some (some (.ref e_BadTable)))
    (c_BadText : PySem.W.nsIn K mainGlobals "BadText" = some (some (.ref e_BadText)))
    (c_BadNumber : PySem.W.nsIn K mainGlobals "BadNumber" = some (some (.ref e_BadNumber)))
    (c_BadWorlds : PySem.W.nsIn K mainGlobals "BadWorlds" = some (some (.ref e_BadWorlds)))
    (c_BadSteps : PySem.W.nsIn K mainGlobals "BadSteps" = some (some (.ref e_BadSteps)))
    (c_BadCalls : PySem.W.nsIn K mainGlobals "BadCalls" = some (some (.ref e_BadCalls)))
    (c_BadDeals : PySem.W.nsIn K mainGlobals "BadDeals" = some (some (.ref e_BadDeals)))
    (c_NotThere : PySem.W.nsIn K mainGlobals "NotThere" = some (some (.ref e_NotThere)))
    (c_TooLarge : PySem.W.nsIn K mainGlobals "TooLarge" = some (some (.ref e_TooLarge)))
    (c_NothingDone : PySem.W.nsIn K mainGlobals "NothingDone" = some (some (.ref e_NothingDone)))
    (c_BadRow : PySem.W.nsIn K mainGlobals "BadRow" = some (some (.ref e_BadRow)))
    (c_BadLine : PySem.W.nsIn K mainGlobals "BadLine" = some (some (.ref e_BadLine)))
    (iC_BadRow : PySem.W.findIn K (.ref e_BadRow) "__init__" = some (some (.ref fI_BadRow)))
    (iL_BadRow : K.lookup fI_BadRow = some ⟨ocI_BadRow, odI_BadRow, .func (PySem.W.ksFn "__init__" qI_BadRow (defArgs (initOf (G.top 13))) (defBody (initOf (G.top 13))) (defScope (initOf (G.top 13))) .none kVI_BadRow dcI_BadRow pmI_BadRow anI_BadRow (.ref cdI_BadRow) ctI_BadRow ccI_BadRow), slI_BadRow⟩)
    (iK_BadRow : PySem.W.codeIn K (.ref cdI_BadRow) qI_BadRow = true)
    (iT_BadRow : PySem.W.typeIn K (.ref fI_BadRow) = some (.type "function"))
    (iF_BadRow : K.lookup cdI_BadRow = some ⟨cfI_BadRow, dfI_BadRow, .fields vfI_BadRow, sfI_BadRow⟩)
    (iV_BadRow : vfI_BadRow[2]? = some (.str fiI_BadRow tfI_BadRow))
    (iP_BadRow : ((l.prog.main.file : Str) == fiI_BadRow) = true)
    (iN_BadRow : K.lookup ccI_BadRow = some ⟨cnI_BadRow, dnI_BadRow, .cell (some (.ref e_BadRow)), snI_BadRow⟩)
    (iS_BadRow : PySem.W.ks_superIn K e_BadRow e_BadRow "__init__" = some (some (.builtin "ValueError.__init__")))
    (iQ_BadRow : oexB K e_BadRow = true)
    (iA_BadRow : PySem.W.findIn K (.ref e_BadRow) "__setattr__" = some (some (.builtin "object.__setattr__")))
    (iG_BadRow : PySem.W.keepIn K (.ref e_BadRow) = true)
    (iB_BadRow : PySem.W.subIn K (.ref e_BadRow) (.type "ValueError") = some true)
    (iE_BadRow : PySem.W.mroIn K e_BadRow (.ref e_BadRow) = some true)
    (iX_BadRow : PySem.W.subIn K (.ref e_BadRow) (.type "BaseException") = some true)
    (iY_BadRow : PySem.W.typeIn K (.ref e_BadRow) = some (.type "type"))
    (iW_BadRow : PySem.W.findIn K (.ref e_BadRow) "place" = some none)
    (iO : PySem.W.nsIn K PySem.cStatics "thirdparty.any" = some none)
    (iR : PySem.W.nsIn K mainGlobals "super" = some none)
    (iU : (l.prog.main.scope.names.lookup ("super" : Str)).isSome = false)
    (xs_JointError : PySem.W.subIn K (.ref e_JointError) (.type "BaseException") = some true)
    (xt_JointError : PySem.W.typeIn K (.ref e_JointError) = some (.type "type"))
    (hd_JointError : PySem.W.hasDictIn K e_JointError = true)
    (ss_JointError : PySem.W.subIn K (.ref e_JointError) (.ref e_JointError) = some true)
    (xs_BadGroup : PySem.W.subIn K (.ref e_BadGroup) (.type "BaseException") = some true)
    (xt_BadGroup : PySem.W.typeIn K (.ref e_BadGroup) = some (.type "type"))
    (hd_BadGroup : PySem.W.hasDictIn K e_BadGroup = true)
    (ss_BadGroup : PySem.W.subIn K (.ref e_BadGroup) (.ref e_BadGroup) = some true)
    (xs_BadTable : PySem.W.subIn K (.ref e_BadTable) (.type "BaseException") = some true)
    (xt_BadTable : PySem.W.typeIn K (.ref e_BadTable) = some (.type "type"))
    (hd_BadTable : PySem.W.hasDictIn K e_BadTable = true)
    (ss_BadTable : PySem.W.subIn K (.ref e_BadTable) (.ref e_BadTable) = some true)
    (xs_BadText : PySem.W.subIn K (.ref e_BadText) (.type "BaseException") = some true)
    (xt_BadText : PySem.W.typeIn K (.ref e_BadText) = some (.type "type"))
    (hd_BadText : PySem.W.hasDictIn K e_BadText = true)
    (ss_BadText : PySem.W.subIn K (.ref e_BadText) (.ref e_BadText) = some true)
    (xs_BadNumber : PySem.W.subIn K (.ref e_BadNumber) (.type "BaseException") = some true)
    (xt_BadNumber : PySem.W.typeIn K (.ref e_BadNumber) = some (.type "type"))
    (hd_BadNumber : PySem.W.hasDictIn K e_BadNumber = true)
    (ss_BadNumber : PySem.W.subIn K (.ref e_BadNumber) (.ref e_BadNumber) = some true)
    (xq_BadNumber : PySem.W.excIn K e_BadNumber [.type "ValueError", .type "Exception", .type "BaseException", .type "object"] "ValueError.__new__" = true)
    (xk_BadNumber : PySem.W.keepIn K (.ref e_BadNumber) = true)
    (hg_BadNumber : PySem.W.findIn K (.ref e_BadNumber) "__getattribute__" = some (some (.builtin "BaseException.__getattribute__")))
    (hk_BadNumber : PySem.W.findIn K (.ref e_BadNumber) "__getattr__" = some none)
    (ha_BadNumber : PySem.W.findIn K (.ref e_BadNumber) "__class__" = some (some (.builtin "object.__class__")))
    (hm_BadNumber : PySem.W.mroIn K e_BadNumber (.type "object") = some true)
    (s_BadNumber_JointError : PySem.W.subIn K (.ref e_BadNumber) (.ref e_JointError) = some true)
    (s_BadNumber_BadRow : PySem.W.subIn K (.ref e_BadNumber) (.ref e_BadRow) = some false)
    (s_BadNumber_BadCalls : PySem.W.subIn K (.ref e_BadNumber) (.ref e_BadCalls) = some false)
    (s_BadNumber_BadGroup : PySem.W.subIn K (.ref e_BadNumber) (.ref e_BadGroup) = some false)
    (s_BadNumber_BadDeals : PySem.W.subIn K (.ref e_BadNumber) (.ref e_BadDeals) = some false)
    (s_BadNumber_BadLine : PySem.W.subIn K (.ref e_BadNumber) (.ref e_BadLine) = some false)
    (s_BadNumber_BadSteps : PySem.W.subIn K (.ref e_BadNumber) (.ref e_BadSteps) = some false)
    (s_BadNumber_BadTable : PySem.W.subIn K (.ref e_BadNumber) (.ref e_BadTable) = some false)
    (s_BadNumber_BadText : PySem.W.subIn K (.ref e_BadNumber) (.ref e_BadText) = some false)
    (s_BadNumber_BadWorlds : PySem.W.subIn K (.ref e_BadNumber) (.ref e_BadWorlds) = some false)
    (s_BadNumber_NothingDone : PySem.W.subIn K (.ref e_BadNumber) (.ref e_NothingDone) = some false)
    (s_BadNumber_NotThere : PySem.W.subIn K (.ref e_BadNumber) (.ref e_NotThere) = some false)
    (s_BadNumber_TooLarge : PySem.W.subIn K (.ref e_BadNumber) (.ref e_TooLarge) = some false)
    (s_BadNumber_ValueError : PySem.W.subIn K (.ref e_BadNumber) (.type "ValueError") = some true)
    (xs_BadWorlds : PySem.W.subIn K (.ref e_BadWorlds) (.type "BaseException") = some true)
    (xt_BadWorlds : PySem.W.typeIn K (.ref e_BadWorlds) = some (.type "type"))
    (hd_BadWorlds : PySem.W.hasDictIn K e_BadWorlds = true)
    (ss_BadWorlds : PySem.W.subIn K (.ref e_BadWorlds) (.ref e_BadWorlds) = some true)
    (xs_BadSteps : PySem.W.subIn K (.ref e_BadSteps) (.type "BaseException") = some true)
    (xt_BadSteps : PySem.W.typeIn K (.ref e_BadSteps) = some (.type "type"))
    (hd_BadSteps : PySem.W.hasDictIn K e_BadSteps = true)
    (ss_BadSteps : PySem.W.subIn K (.ref e_BadSteps) (.ref e_BadSteps) = some true)
    (xs_BadCalls : PySem.W.subIn K (.ref e_BadCalls) (.type "BaseException") = some true)
    (xt_BadCalls : PySem.W.typeIn K (.ref e_BadCalls) = some (.type "type"))
    (hd_BadCalls : PySem.W.hasDictIn K e_BadCalls = true)
    (ss_BadCalls : PySem.W.subIn K (.ref e_BadCalls) (.ref e_BadCalls) = some true)
    (xq_BadCalls : PySem.W.excIn K e_BadCalls [.type "ValueError", .type "Exception", .type "BaseException", .type "object"] "ValueError.__new__" = true)
    (xk_BadCalls : PySem.W.keepIn K (.ref e_BadCalls) = true)
    (hg_BadCalls : PySem.W.findIn K (.ref e_BadCalls) "__getattribute__" = some (some (.builtin "BaseException.__getattribute__")))
    (hk_BadCalls : PySem.W.findIn K (.ref e_BadCalls) "__getattr__" = some none)
    (ha_BadCalls : PySem.W.findIn K (.ref e_BadCalls) "__class__" = some (some (.builtin "object.__class__")))
    (hm_BadCalls : PySem.W.mroIn K e_BadCalls (.type "object") = some true)
    (s_BadCalls_JointError : PySem.W.subIn K (.ref e_BadCalls) (.ref e_JointError) = some true)
    (s_BadCalls_BadRow : PySem.W.subIn K (.ref e_BadCalls) (.ref e_BadRow) = some false)
    (s_BadCalls_BadNumber : PySem.W.subIn K (.ref e_BadCalls) (.ref e_BadNumber) = some false)
    (s_BadCalls_BadGroup : PySem.W.subIn K (.ref e_BadCalls) (.ref e_BadGroup) = some false)
    (s_BadCalls_BadDeals : PySem.W.subIn K (.ref e_BadCalls) (.ref e_BadDeals) = some false)
    (s_BadCalls_BadLine : PySem.W.subIn K (.ref e_BadCalls) (.ref e_BadLine) = some false)
    (s_BadCalls_BadSteps : PySem.W.subIn K (.ref e_BadCalls) (.ref e_BadSteps) = some false)
    (s_BadCalls_BadTable : PySem.W.subIn K (.ref e_BadCalls) (.ref e_BadTable) = some false)
    (s_BadCalls_BadText : PySem.W.subIn K (.ref e_BadCalls) (.ref e_BadText) = some false)
    (s_BadCalls_BadWorlds : PySem.W.subIn K (.ref e_BadCalls) (.ref e_BadWorlds) = some false)
    (s_BadCalls_NothingDone : PySem.W.subIn K (.ref e_BadCalls) (.ref e_NothingDone) = some false)
    (s_BadCalls_NotThere : PySem.W.subIn K (.ref e_BadCalls) (.ref e_NotThere) = some false)
    (s_BadCalls_TooLarge : PySem.W.subIn K (.ref e_BadCalls) (.ref e_TooLarge) = some false)
    (s_BadCalls_ValueError : PySem.W.subIn K (.ref e_BadCalls) (.type "ValueError") = some true)
    (xs_BadDeals : PySem.W.subIn K (.ref e_BadDeals) (.type "BaseException") = some true)
    (xt_BadDeals : PySem.W.typeIn K (.ref e_BadDeals) = some (.type "type"))
    (hd_BadDeals : PySem.W.hasDictIn K e_BadDeals = true)
    (ss_BadDeals : PySem.W.subIn K (.ref e_BadDeals) (.ref e_BadDeals) = some true)
    (xs_NotThere : PySem.W.subIn K (.ref e_NotThere) (.type "BaseException") = some true)
    (xt_NotThere : PySem.W.typeIn K (.ref e_NotThere) = some (.type "type"))
    (hd_NotThere : PySem.W.hasDictIn K e_NotThere = true)
    (ss_NotThere : PySem.W.subIn K (.ref e_NotThere) (.ref e_NotThere) = some true)
    (xs_TooLarge : PySem.W.subIn K (.ref e_TooLarge) (.type "BaseException") = some true)
    (xt_TooLarge : PySem.W.typeIn K (.ref e_TooLarge) = some (.type "type"))
    (hd_TooLarge : PySem.W.hasDictIn K e_TooLarge = true)
    (ss_TooLarge : PySem.W.subIn K (.ref e_TooLarge) (.ref e_TooLarge) = some true)
    (xs_NothingDone : PySem.W.subIn K (.ref e_NothingDone) (.type "BaseException") = some true)
    (xt_NothingDone : PySem.W.typeIn K (.ref e_NothingDone) = some (.type "type"))
    (hd_NothingDone : PySem.W.hasDictIn K e_NothingDone = true)
    (ss_NothingDone : PySem.W.subIn K (.ref e_NothingDone) (.ref e_NothingDone) = some true)
    (xs_BadRow : PySem.W.subIn K (.ref e_BadRow) (.type "BaseException") = some true)
    (xt_BadRow : PySem.W.typeIn K (.ref e_BadRow) = some (.type "type"))
    (hd_BadRow : PySem.W.hasDictIn K e_BadRow = true)
    (ss_BadRow : PySem.W.subIn K (.ref e_BadRow) (.ref e_BadRow) = some true)
    (nf_BadRow : PySem.W.findIn K (.ref e_BadRow) "place" = some none)
    (hg_BadRow : PySem.W.findIn K (.ref e_BadRow) "__getattribute__" = some (some (.builtin "BaseException.__getattribute__")))
    (hk_BadRow : PySem.W.findIn K (.ref e_BadRow) "__getattr__" = some none)
    (ha_BadRow : PySem.W.findIn K (.ref e_BadRow) "__class__" = some (some (.builtin "object.__class__")))
    (hm_BadRow : PySem.W.mroIn K e_BadRow (.type "object") = some true)
    (s_BadRow_JointError : PySem.W.subIn K (.ref e_BadRow) (.ref e_JointError) = some true)
    (s_BadRow_BadNumber : PySem.W.subIn K (.ref e_BadRow) (.ref e_BadNumber) = some false)
    (s_BadRow_BadCalls : PySem.W.subIn K (.ref e_BadRow) (.ref e_BadCalls) = some false)
    (s_BadRow_BadGroup : PySem.W.subIn K (.ref e_BadRow) (.ref e_BadGroup) = some false)
    (s_BadRow_BadDeals : PySem.W.subIn K (.ref e_BadRow) (.ref e_BadDeals) = some false)
    (s_BadRow_BadLine : PySem.W.subIn K (.ref e_BadRow) (.ref e_BadLine) = some false)
    (s_BadRow_BadSteps : PySem.W.subIn K (.ref e_BadRow) (.ref e_BadSteps) = some false)
    (s_BadRow_BadTable : PySem.W.subIn K (.ref e_BadRow) (.ref e_BadTable) = some false)
    (s_BadRow_BadText : PySem.W.subIn K (.ref e_BadRow) (.ref e_BadText) = some false)
    (s_BadRow_BadWorlds : PySem.W.subIn K (.ref e_BadRow) (.ref e_BadWorlds) = some false)
    (s_BadRow_NothingDone : PySem.W.subIn K (.ref e_BadRow) (.ref e_NothingDone) = some false)
    (s_BadRow_NotThere : PySem.W.subIn K (.ref e_BadRow) (.ref e_NotThere) = some false)
    (s_BadRow_TooLarge : PySem.W.subIn K (.ref e_BadRow) (.ref e_TooLarge) = some false)
    (s_BadRow_ValueError : PySem.W.subIn K (.ref e_BadRow) (.type "ValueError") = some true)
    (xs_BadLine : PySem.W.subIn K (.ref e_BadLine) (.type "BaseException") = some true)
    (xt_BadLine : PySem.W.typeIn K (.ref e_BadLine) = some (.type "type"))
    (hd_BadLine : PySem.W.hasDictIn K e_BadLine = true)
    (ss_BadLine : PySem.W.subIn K (.ref e_BadLine) (.ref e_BadLine) = some true)
    (hn_ : PySem.W.specialIn K (.builtin "object.__class__") "__get__" = some (some (.builtin "getset_descriptor.__get__")))
    (ht_ : PySem.W.takesIn K (.builtin "object.__class__") = some true)
    (y_MOST_PEOPLE : PySem.W.nsIn K mainGlobals "MOST_PEOPLE" = some (some (.int 6 u_MOST_PEOPLE)))
    : ∃ fd : FuncData, (∀ (s : Shared) (v : Value), BindsTo s fd ⟨[v], []⟩ [("script", v)]) ∧ ∀ base : Heap, K.In base → base.Ns mainGlobals mg → FnOk l.prog w K mg base (L2N.CX l.prog w) 12 fa fd ["script"] (spLaw K) := by
  have e := hfa.symm.trans (PySem.W.mg_of X Gm a23)
  cases e
  have F0 := fun_mk (st := G.s_is_integer) l0 c0 k0
  have b0 := F0.binds (ps := ["value"]) fun _ _ _ _ _ _ us hl => match us, hl with | [_], _ => rfl
  have F1 := fun_mk (st := G.s_is_from_to) l1 c1 k1
  have b1 := F1.binds (ps := ["value", "least", "most"]) fun _ _ _ _ _ _ us hl => match us, hl with | [_, _, _], _ => rfl
  have F2 := fun_mk (st := G.s_check_number) l2 c2 k2
  have b2 := F2.binds (ps := ["value", "least", "most"]) fun _ _ _ _ _ _ us hl => match us, hl with | [_, _, _], _ => rfl
  have F3 := fun_mk (st := G.s_check_numbers) l3 c3 k3
  have b3 := F3.binds (ps := ["value", "many", "most"]) fun _ _ _ _ _ _ us hl => match us, hl with | [_, _, _], _ => rfl
  have F4 := fun_mk (st := G.s_are_pairs) l4 c4 k4
  have b4 := F4.binds (ps := ["value", "people"]) fun _ _ _ _ _ _ us hl => match us, hl with | [_, _], _ => rfl
  have F5 := fun_mk (st := G.s_check_edges) l5 c5 k5
  have b5 := F5.binds (ps := ["people", "value"]) fun _ _ _ _ _ _ us hl => match us, hl with | [_, _], _ => rfl
  have F6 := fun_mk (st := G.s_check_bits) l6 c6 k6
  have b6 := F6.binds (ps := ["value", "many"]) fun _ _ _ _ _ _ us hl => match us, hl with | [_, _], _ => rfl
  have F7 := fun_mk (st := G.s_check_round) l7 c7 k7
  have b7 := F7.binds (ps := ["n", "edges"]) fun _ _ _ _ _ _ us hl => match us, hl with | [_, _], _ => rfl
  have F8 := fun_mk (st := G.s_words_said) l8 c8 k8
  have b8 := F8.binds (ps := ["n", "edges", "coins", "secrets"]) fun _ _ _ _ _ _ us hl => match us, hl with | [_, _, _, _], _ => rfl
  have F9 := fun_mk (st := G.s_said) l9 c9 k9
  have b9 := F9.binds (ps := ["n", "edges", "coins", "secrets"]) fun _ _ _ _ _ _ us hl => match us, hl with | [_, _, _, _], _ => rfl
  have F10 := fun_mk (st := G.s_sum_said) l10 c10 k10
  have b10 := F10.binds (ps := ["n", "edges", "coins", "secrets"]) fun _ _ _ _ _ _ us hl => match us, hl with | [_, _, _, _], _ => rfl
  have F11 := fun_mk (st := G.s__law_pool) l11 c11 k11
  have b11 := F11.binds (ps := ["script"]) fun _ _ _ _ _ _ us hl => match us, hl with | [_], _ => rfl
  have F12 := fun_mk (st := G.s__law_take) l12 c12 k12
  have b12 := F12.binds (ps := ["pool", "many"]) fun _ _ _ _ _ _ us hl => match us, hl with | [_, _], _ => rfl
  have F13 := fun_mk (st := G.s__law_same) l13 c13 k13
  have b13 := F13.binds (ps := ["found", "due"]) fun _ _ _ _ _ _ us hl => match us, hl with | [_, _], _ => rfl
  have F14 := fun_mk (st := G.s__law_ties) l14 c14 k14
  have b14 := F14.binds (ps := ["pool", "n"]) fun _ _ _ _ _ _ us hl => match us, hl with | [_, _], _ => rfl
  have F15 := fun_mk (st := G.s__law_words) l15 c15 k15
  have b15 := F15.binds (ps := ["ties", "coins", "secrets"]) fun _ _ _ _ _ _ us hl => match us, hl with | [_, _, _], _ => rfl
  have F16 := fun_mk (st := G.s__law_said_fits) l16 c16 k16
  have b16 := F16.binds (ps := ["pool", "n", "ties", "coins", "secrets"]) fun _ _ _ _ _ _ us hl => match us, hl with | [_, _, _, _, _], _ => rfl
  have F17 := fun_mk (st := G.s__law_bad_number) l17 c17 k17
  have b17 := F17.binds (ps := ["pool"]) fun _ _ _ _ _ _ us hl => match us, hl with | [_], _ => rfl
  have F18 := fun_mk (st := G.s__law_bad_pair) l18 c18 k18
  have b18 := F18.binds (ps := ["pool", "n", "one", "other"]) fun _ _ _ _ _ _ us hl => match us, hl with | [_, _, _, _], _ => rfl
  have F19 := fun_mk (st := G.s__law_bad_ties) l19 c19 k19
  have b19 := F19.binds (ps := ["pool", "n", "ties"]) fun _ _ _ _ _ _ us hl => match us, hl with | [_, _, _], _ => rfl
  have F20 := fun_mk (st := G.s__law_bad_bits) l20 c20 k20
  have b20 := F20.binds (ps := ["pool", "bits"]) fun _ _ _ _ _ _ us hl => match us, hl with | [_, _], _ => rfl
  have F21 := fun_mk (st := G.s__law_refusal) l21 c21 k21
  have b21 := F21.binds (ps := ["which", "n", "ties", "coins", "secrets"]) fun _ _ _ _ _ _ us hl => match us, hl with | [_, _, _, _, _], _ => rfl
  have F22 := fun_mk (st := G.s__law_refused) l22 c22 k22
  have b22 := F22.binds (ps := ["n", "ties", "coins", "secrets", "due"]) fun _ _ _ _ _ _ us hl => match us, hl with | [_, _, _, _, _], _ => rfl
  have F23 := fun_mk (st := G.s_law) l23 c23 k23
  have b23 := F23.binds (ps := ["script"]) fun _ _ _ _ _ _ us hl => match us, hl with | [_], _ => rfl
  let T : G.Txt l.prog K mg := {a_is_integer := f0, fd_is_integer := _, F_is_integer := F0, b_is_integer := b0, g_is_integer := PySem.W.mg_of X Gm a0, a_is_from_to := f1, fd_is_from_to := _, F_is_from_to := F1, b_is_from_to := b1, g_is_from_to := PySem.W.mg_of X Gm a1, a_check_number := f2, fd_check_number := _, F_check_number := F2, b_check_number := b2, g_check_number := PySem.W.mg_of X Gm a2, a_check_numbers := f3, fd_check_numbers := _, F_check_numbers := F3, b_check_numbers := b3, g_check_numbers := PySem.W.mg_of X Gm a3, a_are_pairs := f4, fd_are_pairs := _, F_are_pairs := F4, b_are_pairs := b4, g_are_pairs := PySem.W.mg_of X Gm a4, a_check_edges := f5, fd_check_edges := _, F_check_edges := F5, b_check_edges := b5, g_check_edges := PySem.W.mg_of X Gm a5, a_check_bits := f6, fd_check_bits := _, F_check_bits := F6, b_check_bits := b6, g_check_bits := PySem.W.mg_of X Gm a6, a_check_round := f7, fd_check_round := _, F_check_round := F7, b_check_round := b7, g_check_round := PySem.W.mg_of X Gm a7, a_words_said := f8, fd_words_said := _, F_words_said := F8, b_words_said := b8, g_words_said := PySem.W.mg_of X Gm a8, a_said := f9, fd_said := _, F_said := F9, b_said := b9, g_said := PySem.W.mg_of X Gm a9, a_sum_said := f10, fd_sum_said := _, F_sum_said := F10, b_sum_said := b10, g_sum_said := PySem.W.mg_of X Gm a10, a__law_pool := f11, fd__law_pool := _, F__law_pool := F11, b__law_pool := b11, g__law_pool := PySem.W.mg_of X Gm a11, a__law_take := f12, fd__law_take := _, F__law_take := F12, b__law_take := b12, g__law_take := PySem.W.mg_of X Gm a12, a__law_same := f13, fd__law_same := _, F__law_same := F13, b__law_same := b13, g__law_same := PySem.W.mg_of X Gm a13, a__law_ties := f14, fd__law_ties := _, F__law_ties := F14, b__law_ties := b14, g__law_ties := PySem.W.mg_of X Gm a14, a__law_words := f15, fd__law_words := _, F__law_words := F15, b__law_words := b15, g__law_words := PySem.W.mg_of X Gm a15, a__law_said_fits := f16, fd__law_said_fits := _, F__law_said_fits := F16, b__law_said_fits := b16, g__law_said_fits := PySem.W.mg_of X Gm a16, a__law_bad_number := f17, fd__law_bad_number := _, F__law_bad_number := F17, b__law_bad_number := b17, g__law_bad_number := PySem.W.mg_of X Gm a17, a__law_bad_pair := f18, fd__law_bad_pair := _, F__law_bad_pair := F18, b__law_bad_pair := b18, g__law_bad_pair := PySem.W.mg_of X Gm a18, a__law_bad_ties := f19, fd__law_bad_ties := _, F__law_bad_ties := F19, b__law_bad_ties := b19, g__law_bad_ties := PySem.W.mg_of X Gm a19, a__law_bad_bits := f20, fd__law_bad_bits := _, F__law_bad_bits := F20, b__law_bad_bits := b20, g__law_bad_bits := PySem.W.mg_of X Gm a20, a__law_refusal := f21, fd__law_refusal := _, F__law_refusal := F21, b__law_refusal := b21, g__law_refusal := PySem.W.mg_of X Gm a21, a__law_refused := f22, fd__law_refused := _, F__law_refused := F22, b__law_refused := b22, g__law_refused := PySem.W.mg_of X Gm a22, a_law := fa, fd_law := _, F_law := F23, b_law := b23, g_law := PySem.W.mg_of X Gm a23, n_ValueError := PySem.W.mg_none_of X Gm z_ValueError, n_all := PySem.W.mg_none_of X Gm z_all, n_bool := PySem.W.mg_none_of X Gm z_bool, n_enumerate := PySem.W.mg_none_of X Gm z_enumerate, n_int := PySem.W.mg_none_of X Gm z_int, n_isinstance := PySem.W.mg_none_of X Gm z_isinstance, n_len := PySem.W.mg_none_of X Gm z_len, n_list := PySem.W.mg_none_of X Gm z_list, n_range := PySem.W.mg_none_of X Gm z_range, n_str := PySem.W.mg_none_of X Gm z_str, n_sum := PySem.W.mg_none_of X Gm z_sum, n_tuple := PySem.W.mg_none_of X Gm z_tuple, n_zip := PySem.W.mg_none_of X Gm z_zip, e_JointError := e_JointError, c_JointError := PySem.W.mg_of X Gm c_JointError, e_BadGroup := e_BadGroup, c_BadGroup := PySem.W.mg_of X Gm c_BadGroup, e_BadTable := e_BadTable, c_BadTable := PySem.W.mg_of X Gm c_BadTable, e_BadText := e_BadText, c_BadText := PySem.W.mg_of X Gm c_BadText, e_BadNumber := e_BadNumber, c_BadNumber := PySem.W.mg_of X Gm c_BadNumber, e_BadWorlds := e_BadWorlds, c_BadWorlds := PySem.W.mg_of X Gm c_BadWorlds, e_BadSteps := e_BadSteps, c_BadSteps := PySem.W.mg_of X Gm c_BadSteps, e_BadCalls := e_BadCalls, c_BadCalls := PySem.W.mg_of X Gm c_BadCalls, e_BadDeals := e_BadDeals, c_BadDeals := PySem.W.mg_of X Gm c_BadDeals, e_NotThere := e_NotThere, c_NotThere := PySem.W.mg_of X Gm c_NotThere, e_TooLarge := e_TooLarge, c_TooLarge := PySem.W.mg_of X Gm c_TooLarge, e_NothingDone := e_NothingDone, c_NothingDone := PySem.W.mg_of X Gm c_NothingDone, e_BadRow := e_BadRow, c_BadRow := PySem.W.mg_of X Gm c_BadRow, e_BadLine := e_BadLine, c_BadLine := PySem.W.mg_of X Gm c_BadLine, xs_JointError := xs_JointError, xt_JointError := xt_JointError, hd_JointError := hd_JointError, ss_JointError := ss_JointError, xs_BadGroup := xs_BadGroup, xt_BadGroup := xt_BadGroup, hd_BadGroup := hd_BadGroup, ss_BadGroup := ss_BadGroup, xs_BadTable := xs_BadTable, xt_BadTable := xt_BadTable, hd_BadTable := hd_BadTable, ss_BadTable := ss_BadTable, xs_BadText := xs_BadText, xt_BadText := xt_BadText, hd_BadText := hd_BadText, ss_BadText := ss_BadText, xs_BadNumber := xs_BadNumber, xt_BadNumber := xt_BadNumber, hd_BadNumber := hd_BadNumber, ss_BadNumber := ss_BadNumber, xq_BadNumber := xq_BadNumber, xk_BadNumber := xk_BadNumber, hg_BadNumber := hg_BadNumber, hk_BadNumber := hk_BadNumber, ha_BadNumber := ha_BadNumber, hm_BadNumber := hm_BadNumber, s_BadNumber_JointError := s_BadNumber_JointError, s_BadNumber_BadRow := s_BadNumber_BadRow, s_BadNumber_BadCalls := s_BadNumber_BadCalls, s_BadNumber_BadGroup := s_BadNumber_BadGroup, s_BadNumber_BadDeals := s_BadNumber_BadDeals, s_BadNumber_BadLine := s_BadNumber_BadLine, s_BadNumber_BadSteps := s_BadNumber_BadSteps, s_BadNumber_BadTable := s_BadNumber_BadTable, s_BadNumber_BadText := s_BadNumber_BadText, s_BadNumber_BadWorlds := s_BadNumber_BadWorlds, s_BadNumber_NothingDone := s_BadNumber_NothingDone, s_BadNumber_NotThere := s_BadNumber_NotThere, s_BadNumber_TooLarge := s_BadNumber_TooLarge, s_BadNumber_ValueError := s_BadNumber_ValueError, xs_BadWorlds := xs_BadWorlds, xt_BadWorlds := xt_BadWorlds, hd_BadWorlds := hd_BadWorlds, ss_BadWorlds := ss_BadWorlds, xs_BadSteps := xs_BadSteps, xt_BadSteps := xt_BadSteps, hd_BadSteps := hd_BadSteps, ss_BadSteps := ss_BadSteps, xs_BadCalls := xs_BadCalls, xt_BadCalls := xt_BadCalls, hd_BadCalls := hd_BadCalls, ss_BadCalls := ss_BadCalls, xq_BadCalls := xq_BadCalls, xk_BadCalls := xk_BadCalls, hg_BadCalls := hg_BadCalls, hk_BadCalls := hk_BadCalls, ha_BadCalls := ha_BadCalls, hm_BadCalls := hm_BadCalls, s_BadCalls_JointError := s_BadCalls_JointError, s_BadCalls_BadRow := s_BadCalls_BadRow, s_BadCalls_BadNumber := s_BadCalls_BadNumber, s_BadCalls_BadGroup := s_BadCalls_BadGroup, s_BadCalls_BadDeals := s_BadCalls_BadDeals, s_BadCalls_BadLine := s_BadCalls_BadLine, s_BadCalls_BadSteps := s_BadCalls_BadSteps, s_BadCalls_BadTable := s_BadCalls_BadTable, s_BadCalls_BadText := s_BadCalls_BadText, s_BadCalls_BadWorlds := s_BadCalls_BadWorlds, s_BadCalls_NothingDone := s_BadCalls_NothingDone, s_BadCalls_NotThere := s_BadCalls_NotThere, s_BadCalls_TooLarge := s_BadCalls_TooLarge, s_BadCalls_ValueError := s_BadCalls_ValueError, xs_BadDeals := xs_BadDeals, xt_BadDeals := xt_BadDeals, hd_BadDeals := hd_BadDeals, ss_BadDeals := ss_BadDeals, xs_NotThere := xs_NotThere, xt_NotThere := xt_NotThere, hd_NotThere := hd_NotThere, ss_NotThere := ss_NotThere, xs_TooLarge := xs_TooLarge, xt_TooLarge := xt_TooLarge, hd_TooLarge := hd_TooLarge, ss_TooLarge := ss_TooLarge, xs_NothingDone := xs_NothingDone, xt_NothingDone := xt_NothingDone, hd_NothingDone := hd_NothingDone, ss_NothingDone := ss_NothingDone, xs_BadRow := xs_BadRow, xt_BadRow := xt_BadRow, hd_BadRow := hd_BadRow, ss_BadRow := ss_BadRow, nf_BadRow := nf_BadRow, hg_BadRow := hg_BadRow, hk_BadRow := hk_BadRow, ha_BadRow := ha_BadRow, hm_BadRow := hm_BadRow, s_BadRow_JointError := s_BadRow_JointError, s_BadRow_BadNumber := s_BadRow_BadNumber, s_BadRow_BadCalls := s_BadRow_BadCalls, s_BadRow_BadGroup := s_BadRow_BadGroup, s_BadRow_BadDeals := s_BadRow_BadDeals, s_BadRow_BadLine := s_BadRow_BadLine, s_BadRow_BadSteps := s_BadRow_BadSteps, s_BadRow_BadTable := s_BadRow_BadTable, s_BadRow_BadText := s_BadRow_BadText, s_BadRow_BadWorlds := s_BadRow_BadWorlds, s_BadRow_NothingDone := s_BadRow_NothingDone, s_BadRow_NotThere := s_BadRow_NotThere, s_BadRow_TooLarge := s_BadRow_TooLarge, s_BadRow_ValueError := s_BadRow_ValueError, xs_BadLine := xs_BadLine, xt_BadLine := xt_BadLine, hd_BadLine := hd_BadLine, ss_BadLine := ss_BadLine, hn_ := hn_, ht_ := ht_, u_MOST_PEOPLE := _, c_MOST_PEOPLE := PySem.W.mg_of X Gm y_MOST_PEOPLE, i_BadRow := ⟨e_BadRow, fI_BadRow, _, PySem.W.mg_of X Gm c_BadRow, iQ_BadRow, iA_BadRow, iG_BadRow, iX_BadRow, iY_BadRow, iB_BadRow, iE_BadRow, iW_BadRow, iC_BadRow, iT_BadRow, iS_BadRow, ⟨_, _, _, _, _, _, _, _, _, _, _, _, rfl, iL_BadRow, iK_BadRow, ⟨_, _, _, _, _, _, iF_BadRow, iV_BadRow, iP_BadRow⟩, _, _, _, iN_BadRow⟩, .all fun us hl => match us, hl with | [_, _], _ => rfl, iO, PySem.W.mg_none_of X Gm iR, iU⟩}
  refine ⟨T.fd_law, fun s v => .of_eq rfl, fun base _ _ => (G.ok_law (P := l.prog) (w := w) (base := base) T).imp (law_imp main)⟩
end GE
open PySem PySem.W PyProof.Rows in
set_option maxRecDepth 100000 in
set_option maxHeartbeats 0 in
theorem PySem.Challenge.cw_everyhands_k95_whole_said_at_tables_holds : PySem.Challenge.rw_everyhands_k95_whole_said_at_tables.Holds := by
  w_on; o_law; k_head; (case hw => w_witness2)
  k_fill
  refine Z.walk 12 ⟨rfl, by decide, by decide⟩ (l := PySem.Challenge.rw_everyhands_k95_whole_said_at_tables) rfl rfl (fun w h Y => PySem.W.kIn_of Y) ?F
  case F =>
    intro w mg fa h KX G hmg
    refine' GE.all_mk MAIN.main KX G hmg ?a0 ?l0 ?c0 ?k0 ?a1 ?l1 ?c1 ?k1 ?a2 ?l2 ?c2 ?k2 ?a3 ?l3 ?c3 ?k3 ?a4 ?l4 ?c4 ?k4 ?a5 ?l5 ?c5 ?k5 ?a6 ?l6 ?c6 ?k6 ?a7 ?l7 ?c7 ?k7 ?a8 ?l8 ?c8 ?k8 ?a9 ?l9 ?c9 ?k9 ?a10 ?l10 ?c10 ?k10 ?a11 ?l11 ?c11 ?k11 ?a12 ?l12 ?c12 ?k12 ?a13 ?l13 ?c13 ?k13 ?a14 ?l14 ?c14 ?k14 ?a15 ?l15 ?c15 ?k15 ?a16 ?l16 ?c16 ?k16 ?a17 ?l17 ?c17 ?k17 ?a18 ?l18 ?c18 ?k18 ?a19 ?l19 ?c19 ?k19 ?a20 ?l20 ?c20 ?k20 ?a21 ?l21 ?c21 ?k21 ?a22 ?l22 ?c22 ?k22 ?a23 ?l23 ?c23 ?k23 ?z_ValueError ?z_all ?z_bool ?z_enumerate ?z_int ?z_isinstance ?z_len ?z_list ?z_range ?z_str ?z_sum ?z_tuple ?z_zip ?c_JointError ?c_BadGroup ?c_BadTable ?c_BadText ?c_BadNumber ?c_BadWorlds ?c_BadSteps ?c_BadCalls ?c_BadDeals ?c_NotThere ?c_TooLarge ?c_NothingDone ?c_BadRow ?c_BadLine ?iC_BadRow ?iL_BadRow ?iK_BadRow ?iT_BadRow ?iF_BadRow ?iV_BadRow ?iP_BadRow ?iN_BadRow ?iS_BadRow ?iQ_BadRow ?iA_BadRow ?iG_BadRow ?iB_BadRow ?iE_BadRow ?iX_BadRow ?iY_BadRow ?iW_BadRow ?iO ?iR ?iU ?xs_JointError ?xt_JointError ?hd_JointError ?ss_JointError ?xs_BadGroup ?xt_BadGroup ?hd_BadGroup ?ss_BadGroup ?xs_BadTable ?xt_BadTable ?hd_BadTable ?ss_BadTable ?xs_BadText ?xt_BadText ?hd_BadText ?ss_BadText ?xs_BadNumber ?xt_BadNumber ?hd_BadNumber ?ss_BadNumber ?xq_BadNumber ?xk_BadNumber ?hg_BadNumber ?hk_BadNumber ?ha_BadNumber ?hm_BadNumber ?s_BadNumber_JointError ?s_BadNumber_BadRow ?s_BadNumber_BadCalls ?s_BadNumber_BadGroup ?s_BadNumber_BadDeals ?s_BadNumber_BadLine ?s_BadNumber_BadSteps ?s_BadNumber_BadTable ?s_BadNumber_BadText ?s_BadNumber_BadWorlds ?s_BadNumber_NothingDone ?s_BadNumber_NotThere ?s_BadNumber_TooLarge ?s_BadNumber_ValueError ?xs_BadWorlds ?xt_BadWorlds ?hd_BadWorlds ?ss_BadWorlds ?xs_BadSteps ?xt_BadSteps ?hd_BadSteps ?ss_BadSteps ?xs_BadCalls ?xt_BadCalls ?hd_BadCalls ?ss_BadCalls ?xq_BadCalls ?xk_BadCalls ?hg_BadCalls ?hk_BadCalls ?ha_BadCalls ?hm_BadCalls ?s_BadCalls_JointError ?s_BadCalls_BadRow ?s_BadCalls_BadNumber ?s_BadCalls_BadGroup ?s_BadCalls_BadDeals ?s_BadCalls_BadLine ?s_BadCalls_BadSteps ?s_BadCalls_BadTable ?s_BadCalls_BadText ?s_BadCalls_BadWorlds ?s_BadCalls_NothingDone ?s_BadCalls_NotThere ?s_BadCalls_TooLarge ?s_BadCalls_ValueError ?xs_BadDeals ?xt_BadDeals ?hd_BadDeals ?ss_BadDeals ?xs_NotThere ?xt_NotThere ?hd_NotThere ?ss_NotThere ?xs_TooLarge ?xt_TooLarge ?hd_TooLarge ?ss_TooLarge ?xs_NothingDone ?xt_NothingDone ?hd_NothingDone ?ss_NothingDone ?xs_BadRow ?xt_BadRow ?hd_BadRow ?ss_BadRow ?nf_BadRow ?hg_BadRow ?hk_BadRow ?ha_BadRow ?hm_BadRow ?s_BadRow_JointError ?s_BadRow_BadNumber ?s_BadRow_BadCalls ?s_BadRow_BadGroup ?s_BadRow_BadDeals ?s_BadRow_BadLine ?s_BadRow_BadSteps ?s_BadRow_BadTable ?s_BadRow_BadText ?s_BadRow_BadWorlds ?s_BadRow_NothingDone ?s_BadRow_NotThere ?s_BadRow_TooLarge ?s_BadRow_ValueError ?xs_BadLine ?xt_BadLine ?hd_BadLine ?ss_BadLine ?hn_ ?ht_ ?y_MOST_PEOPLE
    (case a0 => k_is)
    (case l0 => k_is)
    (case c0 => k_is)
    (case k0 => k_is)
    (case a1 => k_is)
    (case l1 => k_is)
    (case c1 => k_is)
    (case k1 => k_is)
    (case a2 => k_is)
    (case l2 => k_is)
    (case c2 => k_is)
    (case k2 => k_is)
    (case a3 => k_is)
    (case l3 => k_is)
    (case c3 => k_is)
    (case k3 => k_is)
    (case a4 => k_is)
    (case l4 => k_is)
    (case c4 => k_is)
    (case k4 => k_is)
    (case a5 => k_is)
    (case l5 => k_is)
    (case c5 => k_is)
    (case k5 => k_is)
    (case a6 => k_is)
    (case l6 => k_is)
    (case c6 => k_is)
    (case k6 => k_is)
    (case a7 => k_is)
    (case l7 => k_is)
    (case c7 => k_is)
    (case k7 => k_is)
    (case a8 => k_is)
    (case l8 => k_is)
    (case c8 => k_is)
    (case k8 => k_is)
    (case a9 => k_is)
    (case l9 => k_is)
    (case c9 => k_is)
    (case k9 => k_is)
    (case a10 => k_is)
    (case l10 => k_is)
    (case c10 => k_is)
    (case k10 => k_is)
    (case a11 => k_is)
    (case l11 => k_is)
    (case c11 => k_is)
    (case k11 => k_is)
    (case a12 => k_is)
    (case l12 => k_is)
    (case c12 => k_is)
    (case k12 => k_is)
    (case a13 => k_is)
    (case l13 => k_is)
    (case c13 => k_is)
    (case k13 => k_is)
    (case a14 => k_is)
    (case l14 => k_is)
    (case c14 => k_is)
    (case k14 => k_is)
    (case a15 => k_is)
    (case l15 => k_is)
    (case c15 => k_is)
    (case k15 => k_is)
    (case a16 => k_is)
    (case l16 => k_is)
    (case c16 => k_is)
    (case k16 => k_is)
    (case a17 => k_is)
    (case l17 => k_is)
    (case c17 => k_is)
    (case k17 => k_is)
    (case a18 => k_is)
    (case l18 => k_is)
    (case c18 => k_is)
    (case k18 => k_is)
    (case a19 => k_is)
    (case l19 => k_is)
    (case c19 => k_is)
    (case k19 => k_is)
    (case a20 => k_is)
    (case l20 => k_is)
    (case c20 => k_is)
    (case k20 => k_is)
    (case a21 => k_is)
    (case l21 => k_is)
    (case c21 => k_is)
    (case k21 => k_is)
    (case a22 => k_is)
    (case l22 => k_is)
    (case c22 => k_is)
    (case k22 => k_is)
    (case a23 => k_is)
    (case l23 => k_is)
    (case c23 => k_is)
    (case k23 => k_is)
    (case z_ValueError => k_is)
    (case z_all => k_is)
    (case z_bool => k_is)
    (case z_enumerate => k_is)
    (case z_int => k_is)
    (case z_isinstance => k_is)
    (case z_len => k_is)
    (case z_list => k_is)
    (case z_range => k_is)
    (case z_str => k_is)
    (case z_sum => k_is)
    (case z_tuple => k_is)
    (case z_zip => k_is)
    (case c_JointError => k_is)
    (case c_BadGroup => k_is)
    (case c_BadTable => k_is)
    (case c_BadText => k_is)
    (case c_BadNumber => k_is)
    (case c_BadWorlds => k_is)
    (case c_BadSteps => k_is)
    (case c_BadCalls => k_is)
    (case c_BadDeals => k_is)
    (case c_NotThere => k_is)
    (case c_TooLarge => k_is)
    (case c_NothingDone => k_is)
    (case c_BadRow => k_is)
    (case c_BadLine => k_is)
    (case iC_BadRow => k_is)
    (case iL_BadRow => k_is)
    (case iK_BadRow => k_is)
    (case iT_BadRow => k_is)
    (case iF_BadRow => k_is)
    (case iV_BadRow => rfl)
    (case iP_BadRow => decide +kernel)
    (case iN_BadRow => k_is)
    (case iS_BadRow => kernel_rfl)
    (case iQ_BadRow => kernel_rfl)
    (case iA_BadRow => k_is)
    (case iG_BadRow => k_is)
    (case iB_BadRow => k_is)
    (case iE_BadRow => k_is)
    (case iX_BadRow => k_is)
    (case iY_BadRow => k_is)
    (case iW_BadRow => k_is)
    (case iO => k_is)
    (case iR => k_is)
    (case iU => decide +kernel)
    (case xs_JointError => k_is)
    (case xt_JointError => k_is)
    (case hd_JointError => k_is)
    (case ss_JointError => k_is)
    (case xs_BadGroup => k_is)
    (case xt_BadGroup => k_is)
    (case hd_BadGroup => k_is)
    (case ss_BadGroup => k_is)
    (case xs_BadTable => k_is)
    (case xt_BadTable => k_is)
    (case hd_BadTable => k_is)
    (case ss_BadTable => k_is)
    (case xs_BadText => k_is)
    (case xt_BadText => k_is)
    (case hd_BadText => k_is)
    (case ss_BadText => k_is)
    (case xs_BadNumber => k_is)
    (case xt_BadNumber => k_is)
    (case hd_BadNumber => k_is)
    (case ss_BadNumber => k_is)
    (case xq_BadNumber => k_exc)
    (case xk_BadNumber => k_is)
    (case hg_BadNumber => k_is)
    (case hk_BadNumber => k_is)
    (case ha_BadNumber => k_is)
    (case hm_BadNumber => k_is)
    (case s_BadNumber_JointError => k_is)
    (case s_BadNumber_BadRow => k_is)
    (case s_BadNumber_BadCalls => k_is)
    (case s_BadNumber_BadGroup => k_is)
    (case s_BadNumber_BadDeals => k_is)
    (case s_BadNumber_BadLine => k_is)
    (case s_BadNumber_BadSteps => k_is)
    (case s_BadNumber_BadTable => k_is)
    (case s_BadNumber_BadText => k_is)
    (case s_BadNumber_BadWorlds => k_is)
    (case s_BadNumber_NothingDone => k_is)
    (case s_BadNumber_NotThere => k_is)
    (case s_BadNumber_TooLarge => k_is)
    (case s_BadNumber_ValueError => k_is)
    (case xs_BadWorlds => k_is)
    (case xt_BadWorlds => k_is)
    (case hd_BadWorlds => k_is)
    (case ss_BadWorlds => k_is)
    (case xs_BadSteps => k_is)
    (case xt_BadSteps => k_is)
    (case hd_BadSteps => k_is)
    (case ss_BadSteps => k_is)
    (case xs_BadCalls => k_is)
    (case xt_BadCalls => k_is)
    (case hd_BadCalls => k_is)
    (case ss_BadCalls => k_is)
    (case xq_BadCalls => k_exc)
    (case xk_BadCalls => k_is)
    (case hg_BadCalls => k_is)
    (case hk_BadCalls => k_is)
    (case ha_BadCalls => k_is)
    (case hm_BadCalls => k_is)
    (case s_BadCalls_JointError => k_is)
    (case s_BadCalls_BadRow => k_is)
    (case s_BadCalls_BadNumber => k_is)
    (case s_BadCalls_BadGroup => k_is)
    (case s_BadCalls_BadDeals => k_is)
    (case s_BadCalls_BadLine => k_is)
    (case s_BadCalls_BadSteps => k_is)
    (case s_BadCalls_BadTable => k_is)
    (case s_BadCalls_BadText => k_is)
    (case s_BadCalls_BadWorlds => k_is)
    (case s_BadCalls_NothingDone => k_is)
    (case s_BadCalls_NotThere => k_is)
    (case s_BadCalls_TooLarge => k_is)
    (case s_BadCalls_ValueError => k_is)
    (case xs_BadDeals => k_is)
    (case xt_BadDeals => k_is)
    (case hd_BadDeals => k_is)
    (case ss_BadDeals => k_is)
    (case xs_NotThere => k_is)
    (case xt_NotThere => k_is)
    (case hd_NotThere => k_is)
    (case ss_NotThere => k_is)
    (case xs_TooLarge => k_is)
    (case xt_TooLarge => k_is)
    (case hd_TooLarge => k_is)
    (case ss_TooLarge => k_is)
    (case xs_NothingDone => k_is)
    (case xt_NothingDone => k_is)
    (case hd_NothingDone => k_is)
    (case ss_NothingDone => k_is)
    (case xs_BadRow => k_is)
    (case xt_BadRow => k_is)
    (case hd_BadRow => k_is)
    (case ss_BadRow => k_is)
    (case nf_BadRow => k_is)
    (case hg_BadRow => k_is)
    (case hk_BadRow => k_is)
    (case ha_BadRow => k_is)
    (case hm_BadRow => k_is)
    (case s_BadRow_JointError => k_is)
    (case s_BadRow_BadNumber => k_is)
    (case s_BadRow_BadCalls => k_is)
    (case s_BadRow_BadGroup => k_is)
    (case s_BadRow_BadDeals => k_is)
    (case s_BadRow_BadLine => k_is)
    (case s_BadRow_BadSteps => k_is)
    (case s_BadRow_BadTable => k_is)
    (case s_BadRow_BadText => k_is)
    (case s_BadRow_BadWorlds => k_is)
    (case s_BadRow_NothingDone => k_is)
    (case s_BadRow_NotThere => k_is)
    (case s_BadRow_TooLarge => k_is)
    (case s_BadRow_ValueError => k_is)
    (case xs_BadLine => k_is)
    (case xt_BadLine => k_is)
    (case hd_BadLine => k_is)
    (case ss_BadLine => k_is)
    (case hn_ => k_is)
    (case ht_ => k_is)
    (case y_MOST_PEOPLE => k_is)
