import PyProof.Rows.All
import Wide.All
import OpenK.AllK
import Wide.FinOn
import HandS.ForMost
import HandS.ForExc
import HandS.Lambda
import HandS.ExcCtx
import HandS.HotCalls
import HandS.IsInst
import HandS.Wide
import HandS.ExcIs
import HandS.EndTab
import HandS.CallLocal
import HandS.Conv
import HandS.TupAny
import HandS.Flow
import KE.SortData
import HandS.TupMul
import HandS.RaiseMore
import HandS.Deep
import KE.GoesEnum
import HandS.SortInts
import HandS.Style
import HandS.TupSets
import HandS.Nested
import HandS.SetFor
import HandS.Strs
import PyProof.StrBlock2
import PySem.Challenge.RW_wedgelooks_k01_wedges_copies_and_looks
set_option Elab.async false
set_option linter.all false
set_option maxRecDepth 100000
set_option maxHeartbeats 4000000
set_option autoImplicit false
/-! # Dl: a deep layer over the hand layer: python data as plain data, objects that change as entries of a store -/
namespace Dl
open PySem PySem.Spec PyProof.Rows L2
abbrev St := L2.St

/-- a lambda that was made: where it lies, its code object, its name, what its cells hold -/
structure Clo where
  f : Addr
  c : Addr
  q : Str
  vs : List V
  deriving DecidableEq, Inhabited
/-- python data, without the heap -/
inductive D where
  | non | bl (b : Bool) | int (i : Int) | str (x : Str)
  | tup (xs : List D) | lst (xs : List D) | frl (xs : List D) | dct (kvs : List (Key × D)) | fn (a : Addr) (k : Nat) | ty (n : String) | clo (κ : Clo) (ds : List D)

mutual
inductive Rep (K : PySem.W.Frag) (H : Hp) : D → V → Prop
  | non : Rep K H .non .non
  | bl (b : Bool) : Rep K H (.bl b) (.bl b)
  | int (i : Int) : Rep K H (.int i) (.int i)
  | str (x : Str) : Rep K H (.str x) (.str x)
  | fn (a : Addr) (k : Nat) : Rep K H (.fn a k) (.ref a)
  | ty (n : String) : Rep K H (.ty n) (.ty n)
  | clo {κ : Clo} {ds : List D} : Rd H κ.c (LamX.CodeO κ.c κ.q) → Reps K H ds κ.vs → Rep K H (.clo κ ds) (.ref κ.f)
  | tup {a : Addr} {ds : List D} {vs : List V} : H a = some (.tup vs) → vs.length ≤ sizeLine → Reps K H ds vs → Rep K H (.tup ds) (.ref a)
  | lst {a : Addr} {ds : List D} {vs : List V} : H a = some (.lst vs) → vs.length ≤ sizeLine → Reps K H ds vs → Rep K H (.lst ds) (.ref a)
  | frl {a : Addr} {ds : List D} {vs : List V} : SqL K H a vs → vs.length ≤ sizeLine → Reps K H ds vs → Rep K H (.frl ds) (.ref a)
  | dct {a : Addr} {ds : List (Key × D)} {vs : List (Key × V)} : Rd H a (.dK vs) → RepK K H ds vs → Rep K H (.dct ds) (.ref a)
inductive Reps (K : PySem.W.Frag) (H : Hp) : List D → List V → Prop
  | nil : Reps K H [] []
  | cons {d : D} {v : V} {ds : List D} {vs : List V} : Rep K H d v → Reps K H ds vs → Reps K H (d :: ds) (v :: vs)
inductive RepK (K : PySem.W.Frag) (H : Hp) : List (Key × D) → List (Key × V) → Prop
  | nil : RepK K H [] []
  | cons {k : Key} {d : D} {v : V} {ds : List (Key × D)} {vs : List (Key × V)} : Rep K H d v → RepK K H ds vs → RepK K H ((k, d) :: ds) ((k, v) :: vs)
end

/-- what data lean on stays -/
structure Keep (H H' : Hp) : Prop where
  tup : ∀ a vs, H a = some (.tup vs) → H' a = some (.tup vs)
  lst : ∀ a vs, H a = some (.lst vs) → H' a = some (.lst vs)
  rd : ∀ a u, Rd H a u → (∀ ps, u ≠ .tbl ps) → Rd H' a u
theorem Keep.refl (H : Hp) : Keep H H := ⟨fun _ _ h => h, fun _ _ h => h, fun _ _ h _ => h⟩
theorem Keep.trans {H H1 H2 : Hp} (a : Keep H H1) (b : Keep H1 H2) : Keep H H2 :=
  ⟨fun c vs h => b.tup c vs (a.tup c vs h), fun c vs h => b.lst c vs (a.lst c vs h), fun c u h n => b.rd c u (a.rd c u h n) n⟩
theorem Keep.of {H H' : Hp} (h : ∀ a o, H a = some o → H' a = some o) : Keep H H' :=
  ⟨fun _ _ e => h _ _ e, fun _ _ e => h _ _ e, fun a u r _ => r.elim (fun e => .inl (h _ _ e)) fun ⟨o, e⟩ => .inr ⟨o, h _ _ e⟩⟩

/-- all but the tables stays as it is; a dict may be locked (it is walked) -/
def KeepX (H H' : Hp) : Prop := ∀ a o, H a = some o → (∀ ps, o ≠ .tbl ps) → H' a = some o ∨ ∃ kvs q, o = .dK kvs ∧ H' a = some (.frz q o)
theorem KeepX.refl (H : Hp) : KeepX H H := fun _ _ h _ => .inl h
theorem KeepX.trans {H H1 H2 : Hp} (a : KeepX H H1) (b : KeepX H1 H2) : KeepX H H2 := fun c o h n => by
  rcases a c o h n with e | ⟨kvs, q, e1, e2⟩
  · exact b c o e n
  · rcases b c _ e2 (fun _ z => nomatch z) with e | ⟨kvs', q', e3, _⟩
    · exact .inr ⟨kvs, q, e1, e⟩
    · cases e3
theorem KeepX.of {H H' : Hp} (h : ∀ a o, H a = some o → H' a = some o) : KeepX H H' := fun a o e _ => .inl (h a o e)
theorem KeepX.at {H H' : Hp} (k : KeepX H H') {a : Addr} {o : HO} (e : H a = some o) (n1 : ∀ ps, o ≠ .tbl ps) (n2 : ∀ kvs, o ≠ .dK kvs) : H' a = some o := by
  rcases k a o e n1 with h | ⟨kvs, _, h, _⟩
  · exact h
  · exact absurd h (n2 kvs)
theorem KeepX.keep {H H' : Hp} (k : KeepX H H') : Keep H H' := by
  refine ⟨fun a vs e => k.at e (fun _ z => nomatch z) (fun _ z => nomatch z), fun a vs e => k.at e (fun _ z => nomatch z) (fun _ z => nomatch z), fun a u r hu => ?_⟩
  rcases r with e | ⟨o, e⟩
  · rcases k a u e hu with h | ⟨kvs, q, h1, h2⟩
    · exact .inl h
    · exact .inr ⟨q, h2⟩
  · exact .inr ⟨o, k.at e (fun _ z => nomatch z) (fun _ z => nomatch z)⟩
section
variable {K : PySem.W.Frag} {H H' : Hp}
mutual
theorem Rep.keep (k : Keep H H') : ∀ {d : D} {v : V}, Rep K H d v → Rep K H' d v
  | _, _, .non => .non
  | _, _, .bl b => .bl b
  | _, _, .int b => .int b
  | _, _, .str b => .str b
  | _, _, .fn b k => .fn b k
  | _, _, .ty b => .ty b
  | _, _, .clo h r => .clo (k.rd _ _ h fun _ e => LamX.codeO_ne _ e) (Reps.keep k r)
  | _, _, .tup h l r => .tup (k.tup _ _ h) l (Reps.keep k r)
  | _, _, .lst h l r => .lst (k.lst _ _ h) l (Reps.keep k r)
  | _, _, .frl h l r => .frl (h.elim (fun z => .inl (k.rd _ _ z fun _ e => nomatch e)) .inr) l (Reps.keep k r)
  | _, _, .dct h r => .dct (k.rd _ _ h fun _ e => nomatch e) (RepK.keep k r)
theorem Reps.keep (k : Keep H H') : ∀ {ds : List D} {vs : List V}, Reps K H ds vs → Reps K H' ds vs
  | _, _, .nil => .nil
  | _, _, .cons r t => .cons (Rep.keep k r) (Reps.keep k t)
theorem RepK.keep (k : Keep H H') : ∀ {ds : List (Key × D)} {vs : List (Key × V)}, RepK K H ds vs → RepK K H' ds vs
  | _, _, .nil => .nil
  | _, _, .cons r t => .cons (Rep.keep k r) (RepK.keep k t)
end
theorem Reps.length : ∀ {ds : List D} {vs : List V}, Reps K H ds vs → vs.length = ds.length
  | _, _, .nil => rfl
  | _, _, .cons _ t => by rw [List.length_cons, List.length_cons, Reps.length t]
theorem RepK.length : ∀ {ds : List (Key × D)} {vs : List (Key × V)}, RepK K H ds vs → vs.length = ds.length
  | _, _, .nil => rfl
  | _, _, .cons _ t => by rw [List.length_cons, List.length_cons, RepK.length t]
theorem Reps.get : ∀ {ds : List D} {vs : List V} {i : Nat} {d : D}, Reps K H ds vs → ds[i]? = some d → ∃ v, vs[i]? = some v ∧ Rep K H d v
  | _, _, _, _, .nil, e => by simp at e
  | _, _, 0, _, .cons r _, e => by simp at e; subst e; exact ⟨_, rfl, r⟩
  | _, _, i + 1, d, .cons _ t, e => by
    obtain ⟨v, h1, h2⟩ := Reps.get (i := i) (d := d) t (by simpa using e)
    exact ⟨v, by simpa using h1, h2⟩
theorem Reps.getV : ∀ {ds : List D} {vs : List V} {i : Nat} {v : V}, Reps K H ds vs → vs[i]? = some v → ∃ d, ds[i]? = some d ∧ Rep K H d v
  | _, _, _, _, .nil, e => by simp at e
  | _, _, 0, _, .cons r _, e => by simp at e; subst e; exact ⟨_, rfl, r⟩
  | _, _, i + 1, v, .cons _ t, e => by
    obtain ⟨d, h1, h2⟩ := Reps.getV (i := i) (v := v) t (by simpa using e)
    exact ⟨d, by simpa using h1, h2⟩
theorem Reps.append : ∀ {ds es : List D} {vs us : List V}, Reps K H ds vs → Reps K H es us → Reps K H (ds ++ es) (vs ++ us)
  | _, _, _, _, .nil, s => s
  | _, _, _, _, .cons r t, s => .cons r (Reps.append t s)
theorem Reps.take : ∀ {ds : List D} {vs : List V} (n : Nat), Reps K H ds vs → Reps K H (ds.take n) (vs.take n)
  | _, _, 0, _ => .nil
  | _, _, _ + 1, .nil => .nil
  | _, _, n + 1, .cons r t => .cons r (Reps.take n t)
theorem Reps.drop : ∀ {ds : List D} {vs : List V} (n : Nat), Reps K H ds vs → Reps K H (ds.drop n) (vs.drop n)
  | _, _, 0, r => r
  | _, _, _ + 1, .nil => .nil
  | _, _, n + 1, .cons _ t => Reps.drop n t
theorem Reps.set {d : D} {v : V} (r : Rep K H d v) : ∀ {ds : List D} {vs : List V} (i : Nat), Reps K H ds vs → Reps K H (ds.set i d) (vs.set i v)
  | _, _, _, .nil => .nil
  | _, _, 0, .cons _ t => .cons r t
  | _, _, i + 1, .cons q t => .cons q (Reps.set r i t)
theorem Reps.repl {ds : List D} {vs : List V} (r : Reps K H ds vs) : ∀ n : Nat, Reps K H (List.replicate n ds).flatten (List.replicate n vs).flatten
  | 0 => .nil
  | n + 1 => by
    rw [List.replicate_succ, List.replicate_succ, List.flatten_cons, List.flatten_cons]
    exact r.append (Reps.repl r n)
theorem Reps.snoc {ds : List D} {vs : List V} {d : D} {v : V} (r : Reps K H ds vs) (q : Rep K H d v) : Reps K H (ds ++ [d]) (vs ++ [v]) := r.append (.cons q .nil)
end

/-! ### what is hidden -/
/-- the heap without the addresses of O -/
def hid (H : Hp) (O : List Addr) : Hp := fun a => if a ∈ O then none else H a
theorem hid_some {H : Hp} {O : List Addr} {a : Addr} {o : HO} : hid H O a = some o ↔ a ∉ O ∧ H a = some o := by
  unfold hid
  by_cases h : a ∈ O
  · rw [if_pos h]; simp [h]
  · rw [if_neg h]; simp [h]
theorem hid_in {H : Hp} {O : List Addr} {a : Addr} (h : a ∈ O) : hid H O a = none := by unfold hid; rw [if_pos h]
theorem hid_out {H : Hp} {O : List Addr} {a : Addr} (h : a ∉ O) : hid H O a = H a := by unfold hid; rw [if_neg h]
theorem hid_nil {H : Hp} : hid H [] = H := by funext a; exact hid_out (by simp)
theorem rd_hid {H : Hp} {O : List Addr} {a : Addr} {u : HO} : Rd (hid H O) a u ↔ a ∉ O ∧ Rd H a u := by
  unfold Rd
  constructor
  · rintro (h | ⟨o, h⟩)
    · obtain ⟨h1, h2⟩ := hid_some.mp h; exact ⟨h1, .inl h2⟩
    · obtain ⟨h1, h2⟩ := hid_some.mp h; exact ⟨h1, .inr ⟨o, h2⟩⟩
  · rintro ⟨h1, h | ⟨o, h⟩⟩
    · exact .inl (hid_some.mpr ⟨h1, h⟩)
    · exact .inr ⟨o, hid_some.mpr ⟨h1, h⟩⟩
/-- less is hidden -/
theorem Keep.sub {H : Hp} {O O' : List Addr} (h : ∀ a, a ∈ O' → a ∈ O) : Keep (hid H O) (hid H O') := .of fun a o e => by
  obtain ⟨h1, h2⟩ := hid_some.mp e
  exact hid_some.mpr ⟨fun z => h1 (h a z), h2⟩
/-- a new address may be hidden too -/
theorem Keep.more {H H' : Hp} {O O' : List Addr} {p : Addr} (k : Keep (hid H O) (hid H' O')) (hp : H p = none) : Keep (hid H O) (hid H' (p :: O')) := by
  have n : ∀ {a o}, hid H O a = some o → a ≠ p := fun e z => by
    have e2 := (hid_some.mp e).2
    rw [z, hp] at e2; cases e2
  have m : ∀ {a o}, hid H' O' a = some o → a ≠ p → hid H' (p :: O') a = some o := fun {a o} e z => by
    obtain ⟨h1, h2⟩ := hid_some.mp e
    exact hid_some.mpr ⟨by simp [z, h1], h2⟩
  refine ⟨fun a vs e => m (k.tup a vs e) (n e), fun a vs e => m (k.lst a vs e) (n e), fun a u r hu => ?_⟩
  have na : a ≠ p := r.elim n fun ⟨o, e⟩ => n e
  rcases k.rd a u r hu with e | ⟨o, e⟩
  · exact .inl (m e na)
  · exact .inr ⟨o, m e na⟩

theorem KeepX.sub {H : Hp} {O O' : List Addr} (h : ∀ a, a ∈ O' → a ∈ O) : KeepX (hid H O) (hid H O') := .of fun a o e => by
  obtain ⟨h1, h2⟩ := hid_some.mp e
  exact hid_some.mpr ⟨fun z => h1 (h a z), h2⟩
theorem KeepX.more {H H' : Hp} {O O' : List Addr} {p : Addr} (k : KeepX (hid H O) (hid H' O')) (hp : H p = none) : KeepX (hid H O) (hid H' (p :: O')) := fun a o e n => by
  have z : a ≠ p := fun z => by
    have e2 := (hid_some.mp e).2
    rw [z, hp] at e2; cases e2
  have up : ∀ {u}, hid H' O' a = some u → hid H' (p :: O') a = some u := fun {u} h => by
    obtain ⟨h1, h2⟩ := hid_some.mp h
    exact hid_some.mpr ⟨by simp [z, h1], h2⟩
  rcases k a o e n with h | ⟨kvs, q, h1, h2⟩
  · exact .inl (up h)
  · exact .inr ⟨kvs, q, h1, up h2⟩
/-! ### results, the store -/
/-- a result: data, an object of the store, a new list or dict that nothing else holds -/
inductive R where
  | val (d : D) | obj (i : Nat) | newL (xs : List D) | newD (kvs : List (Key × D))
/-- an object that changes -/
inductive MO where
  | lst (xs : List D) | dct (kvs : List (Key × D)) | ins (C : Addr) (fs : List (Str × D)) | gone
abbrev Sl := List (Option R)
abbrev Mu := List MO
inductive Res where
  | ok (r : R) (μ : Mu) | exc (C : Addr) (μ : Mu) | bad
inductive ResB where
  | ok (b : Bool) (μ : Mu) | exc (C : Addr) (μ : Mu) | bad
inductive ResA where
  | ok (rs : List R) (μ : Mu) | exc (C : Addr) (μ : Mu) | bad
inductive SRes where
  | nx (s : Sl) (μ : Mu) | rt (r : R) (μ : Mu) | bk (s : Sl) (μ : Mu) | ct (s : Sl) (μ : Mu) | exc (C : Addr) (s : Sl) (μ : Mu) | bad
abbrev EF := Sl → Mu → Res
abbrev TF := Sl → Mu → ResB
abbrev AF := Sl → Mu → ResA
abbrev SF := Sl → Mu → SRes
abbrev FF := List R → Mu → Res

def Tmp (K : PySem.W.Frag) (ρ : List Addr) (H : Hp) : R → V → Prop
  | .val d, v => Rep K H d v
  | .obj i, v => ∃ a, ρ[i]? = some a ∧ v = .ref a
  | .newL xs, v => Rep K H (.lst xs) v
  | .newD kvs, v => Rep K H (.dct kvs) v
inductive Tmps (K : PySem.W.Frag) (ρ : List Addr) (H : Hp) : List R → List V → Prop
  | nil : Tmps K ρ H [] []
  | cons {r : R} {v : V} {rs : List R} {vs : List V} : Tmp K ρ H r v → Tmps K ρ H rs vs → Tmps K ρ H (r :: rs) (v :: vs)
inductive Flds (K : PySem.W.Frag) (H : Hp) : List (Str × D) → List (Str × V) → Prop
  | nil : Flds K H [] []
  | cons {k : Str} {r : D} {v : V} {rs : List (Str × D)} {vs : List (Str × V)} : Rep K H r v → Flds K H rs vs → Flds K H ((k, r) :: rs) ((k, v) :: vs)
inductive SlK (K : PySem.W.Frag) (ρ : List Addr) (H : Hp) : Sl → St → Prop
  | nil : SlK K ρ H [] []
  | non {v : Option V} {s : Sl} {σ : St} : SlK K ρ H s σ → SlK K ρ H (none :: s) (v :: σ)
  | cons {r : R} {v : V} {s : Sl} {σ : St} : Tmp K ρ H r v → SlK K ρ H s σ → SlK K ρ H (some r :: s) (some v :: σ)
/-- an object of the store as it stands: Hh the heap that its items may lean on -/
def MOk (K : PySem.W.Frag) (Hh H : Hp) (a : Addr) : MO → Prop
  | .lst xs => ∃ vs, H a = some (.lst vs) ∧ vs.length ≤ sizeLine ∧ Reps K Hh xs vs
  | .dct kvs => ∃ vs, H a = some (.dK vs) ∧ RepK K Hh kvs vs
  | .ins C fs => ∃ dx vs, H a = some (.ins C dx vs) ∧ Flds K Hh fs vs
  | .gone => False

section
variable {K : PySem.W.Frag} {ρ ρ' : List Addr} {H H' : Hp}
/-- an address stays with its number -/
abbrev Ext (ρ ρ' : List Addr) : Prop := ∃ t, ρ' = ρ ++ t
theorem Ext.refl : Ext ρ ρ := ⟨[], by simp⟩
theorem Ext.trans {ρ2 : List Addr} (a : Ext ρ ρ') (b : Ext ρ' ρ2) : Ext ρ ρ2 := by
  obtain ⟨t, rfl⟩ := a; obtain ⟨u, rfl⟩ := b
  exact ⟨t ++ u, by simp⟩
theorem Ext.get (e : Ext ρ ρ') {i : Nat} {a : Addr} (h : ρ[i]? = some a) : ρ'[i]? = some a := by
  obtain ⟨t, rfl⟩ := e
  rw [List.getElem?_append_left (List.getElem?_eq_some_iff.mp h).1]; exact h
theorem Tmp.keep (e : Ext ρ ρ') (k : Keep H H') : ∀ {r : R} {v : V}, Tmp K ρ H r v → Tmp K ρ' H' r v
  | .val _, _, h => Rep.keep k h
  | .obj _, _, ⟨a, h, z⟩ => ⟨a, e.get h, z⟩
  | .newL _, _, h => Rep.keep k h
  | .newD _, _, h => Rep.keep k h
theorem Tmps.keep (e : Ext ρ ρ') (k : Keep H H') : ∀ {r : List R} {v : List V}, Tmps K ρ H r v → Tmps K ρ' H' r v
  | _, _, .nil => .nil
  | _, _, .cons h t => .cons (h.keep e k) (Tmps.keep e k t)
theorem Flds.keep (k : Keep H H') : ∀ {r : List (Str × D)} {v : List (Str × V)}, Flds K H r v → Flds K H' r v
  | _, _, .nil => .nil
  | _, _, .cons h t => .cons (h.keep k) (Flds.keep k t)
theorem SlK.keep (e : Ext ρ ρ') (k : Keep H H') : ∀ {r : Sl} {v : St}, SlK K ρ H r v → SlK K ρ' H' r v
  | _, _, .nil => .nil
  | _, _, .non t => .non (SlK.keep e k t)
  | _, _, .cons h t => .cons (h.keep e k) (SlK.keep e k t)
theorem SlK.length : ∀ {s : Sl} {σ : St}, SlK K ρ H s σ → s.length = σ.length
  | _, _, .nil => rfl
  | _, _, .non t => by rw [List.length_cons, List.length_cons, SlK.length t]
  | _, _, .cons _ t => by rw [List.length_cons, List.length_cons, SlK.length t]
theorem SlK.get : ∀ {s : Sl} {σ : St} {i : Nat} {r : R}, SlK K ρ H s σ → s[i]? = some (some r) → ∃ v, σ[i]? = some (some v) ∧ Tmp K ρ H r v
  | _, _, _, _, .nil, e => by simp at e
  | _, _, 0, _, .non _, e => by simp at e
  | _, _, 0, _, .cons h _, e => by simp at e; subst e; exact ⟨_, rfl, h⟩
  | _, _, i + 1, _, .non t, e => by
    obtain ⟨v, h1, h2⟩ := SlK.get (i := i) t (by simpa using e)
    exact ⟨v, by simpa using h1, h2⟩
  | _, _, i + 1, _, .cons _ t, e => by
    obtain ⟨v, h1, h2⟩ := SlK.get (i := i) t (by simpa using e)
    exact ⟨v, by simpa using h1, h2⟩
theorem SlK.set {r : R} {v : V} (q : Tmp K ρ H r v) : ∀ {s : Sl} {σ : St} (i : Nat), SlK K ρ H s σ → SlK K ρ H (s.set i (some r)) (σ.set i (some v))
  | _, _, _, .nil => .nil
  | _, _, 0, .non t => .cons q t
  | _, _, 0, .cons _ t => .cons q t
  | _, _, i + 1, .non t => .non (SlK.set q i t)
  | _, _, i + 1, .cons h t => .cons h (SlK.set q i t)
theorem SlK.unset {v : Option V} : ∀ {s : Sl} {σ : St} (i : Nat), SlK K ρ H s σ → SlK K ρ H (s.set i none) (σ.set i v)
  | _, _, _, .nil => .nil
  | _, _, 0, .non t => .non t
  | _, _, 0, .cons _ t => .non t
  | _, _, i + 1, .non t => .non (SlK.unset i t)
  | _, _, i + 1, .cons h t => .cons h (SlK.unset i t)
theorem MOk.keep {Hh Hh' : Hp} (k : Keep Hh Hh') {a : Addr} (ha : H' a = H a) : ∀ {m : MO}, MOk K Hh H a m → MOk K Hh' H' a m
  | .lst _, ⟨vs, h, l, r⟩ => ⟨vs, ha.trans h, l, r.keep k⟩
  | .dct _, ⟨vs, h, r⟩ => ⟨vs, ha.trans h, r.keep k⟩
  | .ins _ _, ⟨dx, vs, h, r⟩ => ⟨dx, vs, ha.trans h, r.keep k⟩
  | .gone, h => h
end

/-! ### the state -/
/-- the store as it stands; x: addresses that nothing leans on -/
structure OkG (K : PySem.W.Frag) (T : List (Addr × Str)) (ρ x : List Addr) (μ : Mu) (H : Hp) : Prop where
  len : ρ.length = μ.length
  nd : ρ.Nodup
  live : ∀ a, a ∈ ρ → H a ≠ none
  objs : ∀ (i : Nat) (a : Addr) (m : MO), ρ[i]? = some a → μ[i]? = some m → MOk K (hid H (x ++ ρ)) H a m
  tabs : LamX.Tabs T H
/-- what holds throughout a frame: the written part, the tables, the heap at the entry, how many objects there were -/
structure Cc where
  K : PySem.W.Frag
  T : List (Addr × Str)
  B : Hp
  n : Nat
structure Ok (c : Cc) (ρ x : List Addr) (s : Sl) (μ : Mu) (σ : St) (H : Hp) : Prop where
  g : OkG c.K c.T ρ x μ H
  sl : SlK c.K ρ (hid H (x ++ ρ)) s σ
  dom : ∀ a, c.B a ≠ none → H a ≠ none
  new : ∀ (i : Nat) (a : Addr), c.n ≤ i → ρ[i]? = some a → c.B a = none
  le : c.n ≤ ρ.length
/-- from one state to a later one; x: what has come and nothing leans on -/
structure StepX (ρ : List Addr) (H : Hp) (x ρ' : List Addr) (H' : Hp) : Prop where
  ext : Ext ρ ρ'
  ex : KeepX (hid H ρ) (hid H' (x ++ ρ'))
  grow : ∀ a, H a ≠ none → H' a ≠ none
abbrev Step (ρ : List Addr) (H : Hp) (ρ' : List Addr) (H' : Hp) : Prop := StepX ρ H [] ρ' H'
theorem StepX.kx {ρ ρ' x : List Addr} {H H' : Hp} (a : StepX ρ H x ρ' H') : Keep (hid H ρ) (hid H' (x ++ ρ')) := a.ex.keep
theorem StepX.keepX {ρ ρ' : List Addr} {H H' : Hp} (a : StepX ρ H [] ρ' H') : KeepX (hid H ρ) (hid H' ρ') := by simpa using a.ex
theorem StepX.keep {ρ ρ' : List Addr} {H H' : Hp} (a : StepX ρ H [] ρ' H') : Keep (hid H ρ) (hid H' ρ') := a.keepX.keep
theorem StepX.refl {ρ : List Addr} {H : Hp} : StepX ρ H [] ρ H := ⟨.refl, by simpa using KeepX.refl _, fun _ h => h⟩
theorem StepX.trans {ρ ρ1 ρ2 x : List Addr} {H H1 H2 : Hp} (a : StepX ρ H [] ρ1 H1) (b : StepX ρ1 H1 x ρ2 H2) : StepX ρ H x ρ2 H2 :=
  ⟨a.ext.trans b.ext, a.keepX.trans b.ex, fun c h => b.grow c (a.grow c h)⟩
theorem StepX.weak {ρ ρ1 x : List Addr} {H H1 : Hp} (a : StepX ρ H x ρ1 H1) : StepX ρ H [] ρ1 H1 :=
  ⟨a.ext, a.ex.trans (.sub fun c h => List.mem_append_right _ (by simpa using h)), a.grow⟩
/-- what is new in a result -/
def xo : R → V → List Addr
  | .newL _, .ref p => [p]
  | .newD _, .ref p => [p]
  | _, _ => []
theorem Ok.xnil {c : Cc} {ρ x : List Addr} {s : Sl} {μ : Mu} {σ : St} {H : Hp} (o : Ok c ρ x s μ σ H) : Ok c ρ [] s μ σ H := by
  have k : Keep (hid H (x ++ ρ)) (hid H ([] ++ ρ)) := .sub fun a h => List.mem_append_right _ (by simpa using h)
  exact ⟨⟨o.g.len, o.g.nd, o.g.live, fun i a m h1 h2 => (o.g.objs i a m h1 h2).keep k rfl, o.g.tabs⟩, o.sl.keep .refl k, o.dom, o.new, o.le⟩

/-- a result as it stands -/
def RepR (c : Cc) (ρ : List Addr) (s : Sl) (μ : Mu) (σ : St) (H : Hp) : R → V → Prop
  | .newL xs, v => ∃ p vs, v = .ref p ∧ H p = some (.lst vs) ∧ p ∉ ρ ∧ c.B p = none ∧ vs.length ≤ sizeLine ∧ Reps c.K (hid H (p :: ρ)) xs vs ∧ Ok c ρ [p] s μ σ H
  | .newD kvs, v => ∃ p vs, v = .ref p ∧ H p = some (.dK vs) ∧ p ∉ ρ ∧ c.B p = none ∧ RepK c.K (hid H (p :: ρ)) kvs vs ∧ Ok c ρ [p] s μ σ H
  | .val d, v => Rep c.K (hid H ρ) d v ∧ Ok c ρ [] s μ σ H
  | .obj i, v => (∃ a, ρ[i]? = some a ∧ v = .ref a) ∧ Ok c ρ [] s μ σ H
section
variable {c : Cc} {ρ : List Addr} {s : Sl} {μ : Mu} {σ : St} {H : Hp}
theorem RepR.tmp : ∀ {r : R} {v : V}, RepR c ρ s μ σ H r v → Tmp c.K ρ (hid H ρ) r v
  | .val _, _, h => h.1
  | .obj _, _, h => h.1
  | .newL xs, _, ⟨p, vs, e, h1, h2, _, h3, h4, _⟩ => by
    subst e
    exact .lst (hid_some.mpr ⟨h2, h1⟩) h3 (h4.keep (.sub fun a h => List.mem_cons_of_mem _ h))
  | .newD kvs, _, ⟨p, vs, e, h1, h2, _, h4, _⟩ => by
    subst e
    exact .dct (.inl (hid_some.mpr ⟨h2, h1⟩)) (h4.keep (.sub fun a h => List.mem_cons_of_mem _ h))
theorem RepR.ok : ∀ {r : R} {v : V}, RepR c ρ s μ σ H r v → Ok c ρ [] s μ σ H
  | .val _, _, h => h.2
  | .obj _, _, h => h.2
  | .newL _, _, ⟨_, _, _, _, _, _, _, _, o⟩ => o.xnil
  | .newD _, _, ⟨_, _, _, _, _, _, _, o⟩ => o.xnil
end
/-- a wish about exceptions -/
abbrev WW := WX
def Post (c : Cc) (W : WX) (ρ : List Addr) (H : Hp) (s : Sl) (σ : St) (Q : VK) : Res → Prop
  | .ok r μ' => ∀ v H' ρ', StepX ρ H (xo r v) ρ' H' → RepR c ρ' s μ' σ H' r v → Q v H'
  | .exc C μ' => ∀ H' ρ', Step ρ H ρ' H' → Ok c ρ' [] s μ' σ H' → W (.ref C) none σ H'
  | .bad => False
def PostB (c : Cc) (W : WX) (ρ : List Addr) (H : Hp) (s : Sl) (σ : St) (Q : Bool → Hp → Prop) : ResB → Prop
  | .ok b μ' => ∀ H' ρ', Step ρ H ρ' H' → Ok c ρ' [] s μ' σ H' → Q b H'
  | .exc C μ' => ∀ H' ρ', Step ρ H ρ' H' → Ok c ρ' [] s μ' σ H' → W (.ref C) none σ H'
  | .bad => False
def PostA (c : Cc) (W : WX) (ρ : List Addr) (H : Hp) (s : Sl) (σ : St) (Q : List V → Hp → Prop) : ResA → Prop
  | .ok rs μ' => ∀ vs H' ρ', Step ρ H ρ' H' → Tmps c.K ρ' (hid H' ρ') rs vs → Ok c ρ' [] s μ' σ H' → Q vs H'
  | .exc C μ' => ∀ H' ρ', Step ρ H ρ' H' → Ok c ρ' [] s μ' σ H' → W (.ref C) none σ H'
  | .bad => False
def PostS (c : Cc) (W : WX) (ρ : List Addr) (H : Hp) (D : Ends) : SRes → Prop
  | .nx s' μ' => ∀ σ' H' ρ', Step ρ H ρ' H' → Ok c ρ' [] s' μ' σ' H' → D.nx σ' H'
  | .bk s' μ' => ∀ σ' H' ρ', Step ρ H ρ' H' → Ok c ρ' [] s' μ' σ' H' → D.bk σ' H'
  | .ct s' μ' => ∀ σ' H' ρ', Step ρ H ρ' H' → Ok c ρ' [] s' μ' σ' H' → D.ct σ' H'
  | .rt r μ' => ∀ v H' ρ' s' σ', StepX ρ H (xo r v) ρ' H' → RepR c ρ' s' μ' σ' H' r v → D.rt v H'
  | .exc C s' μ' => ∀ σ' H' ρ', Step ρ H ρ' H' → Ok c ρ' [] s' μ' σ' H' → W (.ref C) none σ' H'
  | .bad => False
def tD (c : Cc) (W : WX) (f : EF) : TE := fun σ H Q => ∃ ρ s μ, Ok c ρ [] s μ σ H ∧ Post c W ρ H s σ Q (f s μ)
def tT (c : Cc) (W : WX) (f : TF) : TT := fun σ H Q => ∃ ρ s μ, Ok c ρ [] s μ σ H ∧ PostB c W ρ H s σ Q (f s μ)
def tA (c : Cc) (W : WX) (f : AF) : TA := fun σ H Q => ∃ ρ s μ, Ok c ρ [] s μ σ H ∧ PostA c W ρ H s σ Q (f s μ)
def tS (c : Cc) (W : WX) (f : SF) : TS := fun D σ H => ∃ ρ s μ, Ok c ρ [] s μ σ H ∧ PostS c W ρ H D (f s μ)
section
variable {c : Cc} {W : WX} {ρ ρ1 : List Addr} {s : Sl} {μ : Mu} {σ : St} {H H1 : Hp}
theorem Post.from (st : Step ρ H ρ1 H1) {Q : VK} : ∀ {r : Res}, Post c W ρ H s σ Q r → Post c W ρ1 H1 s σ Q r
  | .ok _ _, h => fun v H' ρ' st' => h v H' ρ' (st.trans st')
  | .exc _ _, h => fun H' ρ' st' => h H' ρ' (st.trans st')
  | .bad, h => h
theorem PostB.from (st : Step ρ H ρ1 H1) {Q : Bool → Hp → Prop} : ∀ {r : ResB}, PostB c W ρ H s σ Q r → PostB c W ρ1 H1 s σ Q r
  | .ok _ _, h => fun H' ρ' st' => h H' ρ' (st.trans st')
  | .exc _ _, h => fun H' ρ' st' => h H' ρ' (st.trans st')
  | .bad, h => h
theorem PostA.from (st : Step ρ H ρ1 H1) {Q : List V → Hp → Prop} : ∀ {r : ResA}, PostA c W ρ H s σ Q r → PostA c W ρ1 H1 s σ Q r
  | .ok _ _, h => fun v H' ρ' st' => h v H' ρ' (st.trans st')
  | .exc _ _, h => fun H' ρ' st' => h H' ρ' (st.trans st')
  | .bad, h => h
theorem PostS.from (st : Step ρ H ρ1 H1) {D : Ends} : ∀ {r : SRes}, PostS c W ρ H D r → PostS c W ρ1 H1 D r
  | .nx _ _, h => fun v H' ρ' st' => h v H' ρ' (st.trans st')
  | .bk _ _, h => fun v H' ρ' st' => h v H' ρ' (st.trans st')
  | .ct _ _, h => fun v H' ρ' st' => h v H' ρ' (st.trans st')
  | .rt _ _, h => fun v H' ρ' s' σ' st' => h v H' ρ' s' σ' (st.trans st')
  | .exc _ _ _, h => fun σ' H' ρ' st' => h σ' H' ρ' (st.trans st')
  | .bad, h => h
end
end Dl

namespace Dl
open PySem PySem.Spec PyProof.Rows L2
/-! ### expressions one after another -/
def Res.bind : Res → (R → Mu → Res) → Res
  | .ok r μ, g => g r μ
  | .exc C μ, _ => .exc C μ
  | .bad, _ => .bad
def Res.bindB : Res → (R → Mu → ResB) → ResB
  | .ok r μ, g => g r μ
  | .exc C μ, _ => .exc C μ
  | .bad, _ => .bad
def Res.bindA : Res → (R → Mu → ResA) → ResA
  | .ok r μ, g => g r μ
  | .exc C μ, _ => .exc C μ
  | .bad, _ => .bad
def ResB.bind : ResB → (Bool → Mu → Res) → Res
  | .ok r μ, g => g r μ
  | .exc C μ, _ => .exc C μ
  | .bad, _ => .bad
def ResB.bindB : ResB → (Bool → Mu → ResB) → ResB
  | .ok r μ, g => g r μ
  | .exc C μ, _ => .exc C μ
  | .bad, _ => .bad
def ResA.bind : ResA → (List R → Mu → Res) → Res
  | .ok r μ, g => g r μ
  | .exc C μ, _ => .exc C μ
  | .bad, _ => .bad
def ResA.bindA : ResA → (List R → Mu → ResA) → ResA
  | .ok r μ, g => g r μ
  | .exc C μ, _ => .exc C μ
  | .bad, _ => .bad
def Res.bindS (s : Sl) : Res → (R → Mu → SRes) → SRes
  | .ok r μ, g => g r μ
  | .exc C μ, _ => .exc C s μ
  | .bad, _ => .bad
def ResB.bindS (s : Sl) : ResB → (Bool → Mu → SRes) → SRes
  | .ok r μ, g => g r μ
  | .exc C μ, _ => .exc C s μ
  | .bad, _ => .bad
def SRes.bind : SRes → (Sl → Mu → SRes) → SRes
  | .nx s μ, g => g s μ
  | x, _ => x
theorem bind_ok {r μ g} : (Res.ok r μ).bind g = g r μ := rfl
theorem bind_exc {r μ g} : (Res.exc r μ).bind g = .exc r μ := rfl
theorem bind_bad {g} : (Res.bad).bind g = .bad := rfl
theorem bindB_ok {r μ g} : (Res.ok r μ).bindB g = g r μ := rfl
theorem bindB_exc {r μ g} : (Res.exc r μ).bindB g = .exc r μ := rfl
theorem bindB_bad {g} : (Res.bad).bindB g = .bad := rfl
theorem bindA_ok {r μ g} : (Res.ok r μ).bindA g = g r μ := rfl
theorem bindA_exc {r μ g} : (Res.exc r μ).bindA g = .exc r μ := rfl
theorem bindA_bad {g} : (Res.bad).bindA g = .bad := rfl
theorem Bbind_ok {r μ g} : (ResB.ok r μ).bind g = g r μ := rfl
theorem Bbind_exc {r μ g} : (ResB.exc r μ).bind g = .exc r μ := rfl
theorem Bbind_bad {g} : (ResB.bad).bind g = .bad := rfl
theorem BbindB_ok {r μ g} : (ResB.ok r μ).bindB g = g r μ := rfl
theorem BbindB_exc {r μ g} : (ResB.exc r μ).bindB g = .exc r μ := rfl
theorem BbindB_bad {g} : (ResB.bad).bindB g = .bad := rfl
theorem Abind_ok {r μ g} : (ResA.ok r μ).bind g = g r μ := rfl
theorem Abind_exc {r μ g} : (ResA.exc r μ).bind g = .exc r μ := rfl
theorem Abind_bad {g} : (ResA.bad).bind g = .bad := rfl
theorem AbindA_ok {r μ g} : (ResA.ok r μ).bindA g = g r μ := rfl
theorem AbindA_exc {r μ g} : (ResA.exc r μ).bindA g = .exc r μ := rfl
theorem AbindA_bad {g} : (ResA.bad).bindA g = .bad := rfl
theorem bindS_ok {s r μ g} : (Res.ok r μ).bindS s g = g r μ := rfl
theorem bindS_exc {s r μ g} : (Res.exc r μ).bindS s g = .exc r s μ := rfl
theorem bindS_bad {s g} : (Res.bad).bindS s g = .bad := rfl
theorem BbindS_ok {s r μ g} : (ResB.ok r μ).bindS s g = g r μ := rfl
theorem BbindS_exc {s r μ g} : (ResB.exc r μ).bindS s g = .exc r s μ := rfl
theorem BbindS_bad {s g} : (ResB.bad).bindS s g = .bad := rfl
theorem Sbind_nx {s μ g} : (SRes.nx s μ).bind g = g s μ := rfl
theorem Sbind_rt {s μ g} : (SRes.rt s μ).bind g = .rt s μ := rfl
theorem Sbind_bk {s μ g} : (SRes.bk s μ).bind g = .bk s μ := rfl
theorem Sbind_ct {s μ g} : (SRes.ct s μ).bind g = .ct s μ := rfl
theorem Sbind_exc {C s μ g} : (SRes.exc C s μ).bind g = .exc C s μ := rfl
theorem Sbind_bad {g} : (SRes.bad).bind g = .bad := rfl

theorem _root_.L2.PE.imp {X : Cx} {e : Expr} {t t' : TE} (h : PE X e t) (k : ∀ σ H Q, t' σ H Q → t σ H Q) : PE X e t' := ⟨fun pins s σ H Q I q => h.run pins s σ H Q I (k σ H Q q)⟩
theorem _root_.L2.PT.imp {X : Cx} {e : Expr} {t t' : TT} (h : PT X e t) (k : ∀ σ H Q, t' σ H Q → t σ H Q) : PT X e t' := ⟨fun pins s σ H Q I q => h.run pins s σ H Q I (k σ H Q q)⟩
theorem _root_.L2.PW.imp {X : Cx} {e : Expr} {t t' : TT} (h : PW X e t) (k : ∀ σ H Q, t' σ H Q → t σ H Q) : PW X e t' := ⟨fun wh pins s σ H Q I q => h.run wh pins s σ H Q I (k σ H Q q)⟩
theorem _root_.L2.PA.imp {X : Cx} {e : List Expr} {t t' : TA} (h : PA X e t) (k : ∀ σ H Q, t' σ H Q → t σ H Q) : PA X e t' := ⟨fun pos pins s σ H Q I q => h.run pos pins s σ H Q I (k σ H Q q)⟩
theorem _root_.L2.PS.imp {X : Cx} {e : Stmt} {t t' : TS} (h : PS X e t) (k : ∀ D σ H, t' D σ H → t D σ H) : PS X e t' := ⟨fun pins s σ H D I q => h.run pins s σ H D I (k D σ H q)⟩
theorem _root_.L2.PSs.imp {X : Cx} {e : List Stmt} {t t' : TS} (h : PSs X e t) (k : ∀ D σ H, t' D σ H → t D σ H) : PSs X e t' := ⟨fun pins s σ H D I q => h.run pins s σ H D I (k D σ H q)⟩

section
variable {c : Cc} {W : WX}
theorem tD_bind {fa : EF} {g : Sl → R → Mu → Res} {k : St → V → Hp → VK → Prop}
    (h : ∀ ρ s μ σ H r v Q, RepR c ρ s μ σ H r v → Post c W ρ H s σ Q (g s r μ) → k σ v H Q) (σ : St) (H : Hp) (Q : VK)
    (q : tD c W (fun s μ => (fa s μ).bind (g s)) σ H Q) : tD c W fa σ H fun x H1 => k σ x H1 Q := by
  obtain ⟨ρ, s, μ, ok, p⟩ := q
  refine ⟨ρ, s, μ, ok, ?_⟩
  dsimp only at p
  cases e : fa s μ with
  | ok r μ1 => rw [e] at p; exact fun v H' ρ' st rep => h _ _ _ _ _ _ _ _ rep (Post.from st.weak p)
  | exc C μ1 => rw [e] at p; exact p
  | bad => rw [e] at p; exact p
theorem tD_bindB {fa : EF} {g : Sl → R → Mu → ResB} {k : St → V → Hp → (Bool → Hp → Prop) → Prop}
    (h : ∀ ρ s μ σ H r v Q, RepR c ρ s μ σ H r v → PostB c W ρ H s σ Q (g s r μ) → k σ v H Q) (σ : St) (H : Hp) (Q : Bool → Hp → Prop)
    (q : tT c W (fun s μ => (fa s μ).bindB (g s)) σ H Q) : tD c W fa σ H fun x H1 => k σ x H1 Q := by
  obtain ⟨ρ, s, μ, ok, p⟩ := q
  refine ⟨ρ, s, μ, ok, ?_⟩
  dsimp only at p
  cases e : fa s μ with
  | ok r μ1 => rw [e] at p; exact fun v H' ρ' st rep => h _ _ _ _ _ _ _ _ rep (PostB.from st.weak p)
  | exc C μ1 => rw [e] at p; exact p
  | bad => rw [e] at p; exact p
theorem tT_bind {fa : TF} {g : Sl → Bool → Mu → Res} {k : St → Bool → Hp → VK → Prop}
    (h : ∀ ρ s μ σ H b Q, Ok c ρ [] s μ σ H → Post c W ρ H s σ Q (g s b μ) → k σ b H Q) (σ : St) (H : Hp) (Q : VK)
    (q : tD c W (fun s μ => (fa s μ).bind (g s)) σ H Q) : tT c W fa σ H fun x H1 => k σ x H1 Q := by
  obtain ⟨ρ, s, μ, ok, p⟩ := q
  refine ⟨ρ, s, μ, ok, ?_⟩
  dsimp only at p
  cases e : fa s μ with
  | ok r μ1 => rw [e] at p; exact fun H' ρ' st rep => h _ _ _ _ _ _ _ rep (Post.from st p)
  | exc C μ1 => rw [e] at p; exact p
  | bad => rw [e] at p; exact p
theorem tT_bindB {fa : TF} {g : Sl → Bool → Mu → ResB} {k : St → Bool → Hp → (Bool → Hp → Prop) → Prop}
    (h : ∀ ρ s μ σ H b Q, Ok c ρ [] s μ σ H → PostB c W ρ H s σ Q (g s b μ) → k σ b H Q) (σ : St) (H : Hp) (Q : Bool → Hp → Prop)
    (q : tT c W (fun s μ => (fa s μ).bindB (g s)) σ H Q) : tT c W fa σ H fun x H1 => k σ x H1 Q := by
  obtain ⟨ρ, s, μ, ok, p⟩ := q
  refine ⟨ρ, s, μ, ok, ?_⟩
  dsimp only at p
  cases e : fa s μ with
  | ok r μ1 => rw [e] at p; exact fun H' ρ' st rep => h _ _ _ _ _ _ _ rep (PostB.from st p)
  | exc C μ1 => rw [e] at p; exact p
  | bad => rw [e] at p; exact p
theorem tA_bind {fa : AF} {g : Sl → List R → Mu → Res} {k : St → List V → Hp → VK → Prop}
    (h : ∀ ρ s μ σ H rs vs Q, Tmps c.K ρ (hid H ρ) rs vs → Ok c ρ [] s μ σ H → Post c W ρ H s σ Q (g s rs μ) → k σ vs H Q) (σ : St) (H : Hp) (Q : VK)
    (q : tD c W (fun s μ => (fa s μ).bind (g s)) σ H Q) : tA c W fa σ H fun x H1 => k σ x H1 Q := by
  obtain ⟨ρ, s, μ, ok, p⟩ := q
  refine ⟨ρ, s, μ, ok, ?_⟩
  dsimp only at p
  cases e : fa s μ with
  | ok r μ1 => rw [e] at p; exact fun v H' ρ' st tm ok' => h _ _ _ _ _ _ _ _ tm ok' (Post.from st p)
  | exc C μ1 => rw [e] at p; exact p
  | bad => rw [e] at p; exact p
/-- two values: the first is carried over the second's evaluation -/
theorem tD_two {fa fb : EF} {g : R → R → Mu → Res} {k : V → V → Hp → VK → Prop}
    (h : ∀ ρ s μ σ H r1 r2 v1 v2 Q, Tmp c.K ρ (hid H ρ) r1 v1 → RepR c ρ s μ σ H r2 v2 → Post c W ρ H s σ Q (g r1 r2 μ) → k v1 v2 H Q) (σ : St) (H : Hp) (Q : VK)
    (q : tD c W (fun s μ => (fa s μ).bind fun x μ1 => (fb s μ1).bind fun y μ2 => g x y μ2) σ H Q) : tD c W fa σ H fun x H1 => tD c W fb σ H1 fun y H2 => k x y H2 Q := by
  refine tD_bind (k := fun σ x H Q => tD c W fb σ H fun y H2 => k x y H2 Q) (fun ρ s μ σ H r v Q rep p => ?_) σ H Q q
  refine ⟨ρ, s, μ, rep.ok, ?_⟩
  cases e : fb s μ with
  | ok r2 μ2 => rw [e] at p; exact fun v2 H' ρ' st rep2 => h _ _ _ _ _ _ _ _ _ _ (rep.tmp.keep st.ext st.weak.keep) rep2 (Post.from st.weak p)
  | exc C μ1 => rw [e] at p; exact p
  | bad => rw [e] at p; exact p
end

/-! ### new objects -/
section
variable {c : Cc} {W : WX} {ρ x : List Addr} {s : Sl} {μ : Mu} {σ : St} {H : Hp} {p : Addr} {o : HO}
theorem Ok.fresh (k : Ok c ρ x s μ σ H) (hp : H p = none) : p ∉ ρ ∧ c.B p = none := by
  refine ⟨fun h => k.g.live p h hp, ?_⟩
  cases e : c.B p with
  | none => rfl
  | some o => exact absurd hp (k.dom p (by rw [e]; simp))
theorem StepX.allocX (hp : H p = none) : StepX ρ H [p] ρ (upd H p o) := by
  refine ⟨.refl, KeepX.more (.of fun a o' e => ?_) hp, fun a h => ?_⟩
  · obtain ⟨h1, h2⟩ := hid_some.mp e
    exact hid_some.mpr ⟨h1, by rw [upd_ne (ne_of_none h2 hp)]; exact h2⟩
  · unfold upd; split
    · simp
    · exact h
theorem StepX.alloc (hp : H p = none) : StepX ρ H [] ρ (upd H p o) := (StepX.allocX hp).weak
theorem Ok.move {x' : List Addr} {H' : Hp} (k : Ok c ρ x s μ σ H) (kp : Keep (hid H (x ++ ρ)) (hid H' (x' ++ ρ))) (same : ∀ a, a ∈ ρ → H' a = H a) (grow : ∀ a, H a ≠ none → H' a ≠ none) (tb : LamX.Tabs c.T H') : Ok c ρ x' s μ σ H' :=
  ⟨⟨k.g.len, k.g.nd, fun a h => grow a (k.g.live a h), fun i a m h1 h2 => (k.g.objs i a m h1 h2).keep kp (same a (List.mem_of_getElem? h1)), tb⟩, k.sl.keep .refl kp, fun a h => grow a (k.dom a h), k.new, k.le⟩
theorem Ok.alloc (k : Ok c ρ [] s μ σ H) (hp : H p = none) : Ok c ρ [p] s μ σ (upd H p o) := by
  have hr := (k.fresh hp).1
  refine k.move (x' := [p]) ?_ (fun a h => ?_) (StepX.alloc (ρ := ρ) (o := o) hp).grow (k.g.tabs.ext fun b o' e => ?_)
  · exact (StepX.allocX (ρ := [] ++ ρ) hp).kx
  · exact upd_ne fun z => by rw [z] at h; exact hr h
  · rw [upd_ne (ne_of_none e hp)]; exact e
theorem Post.val {Q : VK} {d : D} {v : V} (q : Post c W ρ H s σ Q (.ok (.val d) μ)) (k : Ok c ρ [] s μ σ H) (r : Rep c.K (hid H ρ) d v) : Q v H := q v H ρ .refl ⟨r, k⟩
theorem Post.newT {Q : VK} {ds : List D} {vs : List V} (q : Post c W ρ H s σ Q (.ok (.val (.tup ds)) μ)) (k : Ok c ρ [] s μ σ H) (r : Reps c.K (hid H ρ) ds vs) (l : vs.length ≤ sizeLine) :
    ∀ p, H p = none → Q (.ref p) (upd H p (.tup vs)) := fun p hp => by
  have kp := (StepX.alloc (ρ := ρ) (o := .tup vs) hp).keep
  exact q (.ref p) _ ρ (.alloc hp) ⟨.tup (hid_some.mpr ⟨(k.fresh hp).1, upd_same⟩) l (r.keep kp), (k.alloc hp).xnil⟩
theorem Post.newL {Q : VK} {ds : List D} {vs : List V} (q : Post c W ρ H s σ Q (.ok (.newL ds) μ)) (k : Ok c ρ [] s μ σ H) (r : Reps c.K (hid H ρ) ds vs) (l : vs.length ≤ sizeLine) :
    ∀ p, H p = none → Q (.ref p) (upd H p (.lst vs)) := fun p hp => by
  have kp := (StepX.allocX (ρ := ρ) (o := .lst vs) hp).kx
  exact q (.ref p) _ ρ (.allocX hp) ⟨p, vs, rfl, upd_same, (k.fresh hp).1, (k.fresh hp).2, l, r.keep kp, k.alloc hp⟩
theorem Post.newD {Q : VK} {ds : List (Key × D)} {vs : List (Key × V)} (q : Post c W ρ H s σ Q (.ok (.newD ds) μ)) (k : Ok c ρ [] s μ σ H) (r : RepK c.K (hid H ρ) ds vs) :
    ∀ p, H p = none → Q (.ref p) (upd H p (.dK vs)) := fun p hp => by
  have kp := (StepX.allocX (ρ := ρ) (o := .dK vs) hp).kx
  exact q (.ref p) _ ρ (.allocX hp) ⟨p, vs, rfl, upd_same, (k.fresh hp).1, (k.fresh hp).2, r.keep kp, k.alloc hp⟩
end

/-! ### what a result holds now -/
def deref (μ : Mu) : R → Option D
  | .val d => some d
  | .newL xs => some (.lst xs)
  | .newD kvs => some (.dct kvs)
  | .obj i => match μ[i]? with
    | some (.lst xs) => some (.lst xs)
    | some (.dct kvs) => some (.dct kvs)
    | _ => none
@[simp] theorem deref_val {μ d} : deref μ (.val d) = some d := rfl
@[simp] theorem deref_newL {μ d} : deref μ (.newL d) = some (.lst d) := rfl
@[simp] theorem deref_newD {μ d} : deref μ (.newD d) = some (.dct d) := rfl
section
variable {K : PySem.W.Frag} {T : List (Addr × Str)} {ρ x : List Addr} {μ : Mu} {H : Hp}
theorem mu_of (g : OkG K T ρ x μ H) {i : Nat} {a : Addr} (h : ρ[i]? = some a) : ∃ m, μ[i]? = some m ∧ MOk K (hid H (x ++ ρ)) H a m := by
  have hi : i < μ.length := by rw [← g.len]; exact (List.getElem?_eq_some_iff.mp h).1
  exact ⟨_, List.getElem?_eq_getElem hi, g.objs i a _ h (List.getElem?_eq_getElem hi)⟩
theorem lst_of (g : OkG K T ρ [] μ H) {r : R} {v : V} {ds : List D} (t : Tmp K ρ (hid H ρ) r v) (e : deref μ r = some (.lst ds)) :
    ∃ a vs, v = .ref a ∧ H a = some (.lst vs) ∧ vs.length ≤ sizeLine ∧ Reps K (hid H ρ) ds vs := by
  cases r with
  | val d =>
    have e : d = .lst ds := by simpa using e
    subst e
    cases (show Rep K (hid H ρ) (.lst ds) v from t) with
    | lst h l r => exact ⟨_, _, rfl, (hid_some.mp h).2, l, r⟩
  | newL xs =>
    have e : xs = ds := by simpa using e
    subst e
    cases (show Rep K (hid H ρ) (.lst xs) v from t) with
    | lst h l r => exact ⟨_, _, rfl, (hid_some.mp h).2, l, r⟩
  | newD kvs => simp at e
  | obj i =>
    obtain ⟨a, h1, rfl⟩ := t
    obtain ⟨m, h2, h3⟩ := mu_of g h1
    unfold deref at e
    dsimp only at e
    rw [h2] at e
    cases m with
    | lst xs =>
      have e : xs = ds := by simpa using e
      subst e
      obtain ⟨vs, q1, q2, q3⟩ := h3
      exact ⟨a, vs, rfl, q1, q2, by simpa using q3⟩
    | dct _ => simp at e
    | ins _ _ => simp at e
    | gone => simp at e
theorem val_of {r : R} {d : D} (e : deref μ r = some d) (hl : ∀ ds, d ≠ .lst ds := by intro _ z; cases z) (hd : ∀ ds, d ≠ .dct ds := by intro _ z; cases z) : r = .val d := by
  cases r with
  | val d' => have e : d' = d := by simpa using e
              rw [e]
  | newL xs => have e : D.lst xs = d := by simpa using e
               exact absurd e.symm (hl _)
  | newD xs => have e : D.dct xs = d := by simpa using e
               exact absurd e.symm (hd _)
  | obj i =>
    unfold deref at e
    dsimp only at e
    split at e
    · exact absurd (Option.some.inj e).symm (hl _)
    · exact absurd (Option.some.inj e).symm (hd _)
    · cases e
theorem int_of {r : R} {v : V} {i : Int} (t : Tmp K ρ (hid H ρ) r v) (e : deref μ r = some (.int i)) : v = .int i := by
  rw [val_of e] at t
  cases (show Rep K _ (.int i) v from t); rfl
theorem bl_of {r : R} {v : V} {i : Bool} (t : Tmp K ρ (hid H ρ) r v) (e : deref μ r = some (.bl i)) : v = .bl i := by
  rw [val_of e] at t
  cases (show Rep K _ (.bl i) v from t); rfl
theorem str_of {r : R} {v : V} {i : Str} (t : Tmp K ρ (hid H ρ) r v) (e : deref μ r = some (.str i)) : v = .str i := by
  rw [val_of e] at t
  cases (show Rep K _ (.str i) v from t); rfl
theorem non_of {r : R} {v : V} (t : Tmp K ρ (hid H ρ) r v) (e : deref μ r = some .non) : v = .non := by
  rw [val_of e] at t
  cases (show Rep K _ .non v from t); rfl
theorem fn_of' {r : R} {v : V} {a : Addr} {k : Nat} (t : Tmp K ρ (hid H ρ) r v) (e : deref μ r = some (.fn a k)) : v = .ref a := by
  rw [val_of e] at t
  cases (show Rep K _ (.fn a k) v from t); rfl
theorem ty_of {r : R} {v : V} {a : String} (t : Tmp K ρ (hid H ρ) r v) (e : deref μ r = some (.ty a)) : v = .ty a := by
  rw [val_of e] at t
  cases (show Rep K _ (.ty a) v from t); rfl
theorem tup_of {r : R} {v : V} {ds : List D} (t : Tmp K ρ (hid H ρ) r v) (e : deref μ r = some (.tup ds)) :
    ∃ a vs, v = .ref a ∧ H a = some (.tup vs) ∧ a ∉ ρ ∧ vs.length ≤ sizeLine ∧ Reps K (hid H ρ) ds vs := by
  rw [val_of e] at t
  cases (show Rep K _ (.tup ds) v from t) with
  | tup h l r => exact ⟨_, _, rfl, (hid_some.mp h).2, (hid_some.mp h).1, l, r⟩
theorem frl_of {r : R} {v : V} {ds : List D} (t : Tmp K ρ (hid H ρ) r v) (e : deref μ r = some (.frl ds)) :
    ∃ a vs, v = .ref a ∧ SqL K H a vs ∧ vs.length ≤ sizeLine ∧ Reps K (hid H ρ) ds vs := by
  rw [val_of e] at t
  cases (show Rep K _ (.frl ds) v from t) with
  | frl h l r => exact ⟨_, _, rfl, h.elim (fun z => .inl (rd_hid.mp z).2) .inr, l, r⟩
theorem dct_of (g : OkG K T ρ [] μ H) {r : R} {v : V} {ds : List (Key × D)} (t : Tmp K ρ (hid H ρ) r v) (e : deref μ r = some (.dct ds)) :
    ∃ a vs, v = .ref a ∧ Rd H a (.dK vs) ∧ RepK K (hid H ρ) ds vs := by
  cases r with
  | val d =>
    have e : d = .dct ds := by simpa using e
    subst e
    cases (show Rep K (hid H ρ) (.dct ds) v from t) with
    | dct h r => exact ⟨_, _, rfl, (rd_hid.mp h).2, r⟩
  | newL xs => simp at e
  | newD xs =>
    have e : xs = ds := by simpa using e
    subst e
    cases (show Rep K (hid H ρ) (.dct xs) v from t) with
    | dct h r => exact ⟨_, _, rfl, (rd_hid.mp h).2, r⟩
  | obj i =>
    obtain ⟨a, h1, rfl⟩ := t
    obtain ⟨m, h2, h3⟩ := mu_of g h1
    unfold deref at e
    dsimp only at e
    rw [h2] at e
    cases m with
    | dct xs =>
      have e : xs = ds := by simpa using e
      subst e
      obtain ⟨vs, q1, q3⟩ := h3
      exact ⟨a, vs, rfl, .inl q1, by simpa using q3⟩
    | lst _ => simp at e
    | ins _ _ => simp at e
    | gone => simp at e
/-- whatever it is, as it stands in the whole heap -/
theorem rep_of (g : OkG K T ρ [] μ H) {r : R} {v : V} {d : D} (t : Tmp K ρ (hid H ρ) r v) (e : deref μ r = some d) : Rep K H d v := by
  have kp : Keep (hid H ρ) H := by
    have z := Keep.sub (H := H) (O := ρ) (O' := []) (fun a h => by simp at h)
    rw [hid_nil] at z; exact z
  by_cases hl : ∃ ds, d = .lst ds
  · obtain ⟨ds, rfl⟩ := hl
    obtain ⟨a, vs, rfl, h1, h2, h3⟩ := lst_of g t e
    exact .lst h1 h2 (h3.keep kp)
  · by_cases hd : ∃ ds, d = .dct ds
    · obtain ⟨ds, rfl⟩ := hd
      obtain ⟨a, vs, rfl, h1, h3⟩ := dct_of g t e
      exact .dct h1 (h3.keep kp)
    · rw [val_of e (fun ds z => hl ⟨ds, z⟩) (fun ds z => hd ⟨ds, z⟩)] at t
      exact Rep.keep kp t
end
end Dl

namespace Dl
open PySem PySem.Spec PyProof.Rows L2
/-! ### data of the library's kind, equality -/
mutual
def toPy : D → Option PyData
  | .non => some .none
  | .bl b => some (.bool b)
  | .int i => some (.int i)
  | .str x => if PyData.canLay0 (.str x) = true then some (.str x) else none
  | .tup xs => (toPys xs).map .tuple
  | .lst xs => (toPys xs).map .list
  | .frl xs => (toPys xs).map .list
  | _ => none
def toPys : List D → Option (List PyData)
  | [] => some []
  | x :: xs => match toPy x, toPys xs with
    | some a, some as => some (a :: as)
    | _, _ => none
end
mutual
theorem dp_of {K : PySem.W.Frag} {H : Hp} : ∀ {d : D} {v : V} {p : PyData}, Rep K H d v → toPy d = some p → Dp K H v p ∧ p.canLay0 = true
  | _, _, p, .non, e => by
    have e : PyData.none = p := by simpa [toPy] using e
    subst e; exact ⟨.non, by simp [PyData.canLay0]⟩
  | _, _, p, .bl b, e => by
    have e : PyData.bool b = p := by simpa [toPy] using e
    subst e; exact ⟨.bl b, by simp [PyData.canLay0]⟩
  | _, _, p, .int b, e => by
    have e : PyData.int b = p := by simpa [toPy] using e
    subst e; exact ⟨.int b, by simp [PyData.canLay0]⟩
  | _, _, p, .str b, e => by
    unfold toPy at e
    split at e
    · rename_i h
      have e : PyData.str b = p := by simpa using e
      subst e; exact ⟨.str b, h⟩
    · cases e
  | _, _, p, .fn b _, e => by simp [toPy] at e
  | _, _, p, .ty b, e => by simp [toPy] at e
  | .clo _ _, _, p, .clo _ _, e => by simp [toPy] at e
  | .tup ds, _, p, .tup h l r, e => by
    unfold toPy at e
    cases q : toPys ds with
    | none => rw [q] at e; cases e
    | some ps =>
      rw [q] at e
      have e : PyData.tuple ps = p := by simpa using e
      subst e
      obtain ⟨h1, h2⟩ := dps_of r q
      exact ⟨.tup (.of h) h1, by simpa [PyData.canLay0] using h2⟩
  | .lst ds, _, p, .lst h l r, e => by
    unfold toPy at e
    cases q : toPys ds with
    | none => rw [q] at e; cases e
    | some ps =>
      rw [q] at e
      have e : PyData.list ps = p := by simpa using e
      subst e
      obtain ⟨h1, h2⟩ := dps_of r q
      exact ⟨.lst (.of h) h1, by simpa [PyData.canLay0] using h2⟩
  | .frl ds, _, p, .frl h l r, e => by
    unfold toPy at e
    cases q : toPys ds with
    | none => rw [q] at e; cases e
    | some ps =>
      rw [q] at e
      have e : PyData.list ps = p := by simpa using e
      subst e
      obtain ⟨h1, h2⟩ := dps_of r q
      exact ⟨.lst h h1, by simpa [PyData.canLay0] using h2⟩
  | _, _, p, .dct h r, e => by simp [toPy] at e
theorem dps_of {K : PySem.W.Frag} {H : Hp} : ∀ {ds : List D} {vs : List V} {ps : List PyData}, Reps K H ds vs → toPys ds = some ps → DpAll K H vs ps ∧ PyData.canLayAll0 ps = true
  | _, _, ps, .nil, e => by
    have e : ([] : List PyData) = ps := by simpa [toPys] using e
    subst e; exact ⟨.nil, by simp [PyData.canLayAll0]⟩
  | d :: ds, _, ps, .cons r t, e => by
    unfold toPys at e
    cases q1 : toPy d with
    | none => rw [q1] at e; cases e
    | some a =>
      cases q2 : toPys ds with
      | none => rw [q1, q2] at e; cases e
      | some as =>
        rw [q1, q2] at e
        have e : a :: as = ps := by simpa using e
        subst e
        obtain ⟨h1, h2⟩ := dp_of r q1
        obtain ⟨h3, h4⟩ := dps_of t q2
        exact ⟨.cons h1 h3, by simp [PyData.canLayAll0, h2, h4]⟩
end
/-- == of data; bad where the depth is not known to be small -/
def eqD : D → D → Option Bool
  | .str a, .str b => some (decide (a = b))
  | a, b => match toPy a, toPy b with
    | some p, some q => if p.depth ≤ 64 ∧ q.depth ≤ 64 then some (PyData.eqv p q) else none
    | _, _ => none
theorem eqD_two {K : PySem.W.Frag} {H : Hp} {a b : D} {v u : V} {r : Bool} (ha : Rep K H a v) (hb : Rep K H b u) (e : eqD a b = some r) :
    (∃ p q, Dp K H v p ∧ Dp K H u q ∧ SeqAt.shaped p = true ∧ SeqAt.shaped q = true ∧ r = PyData.eqv p q) ∨ ∃ x y, v = .str x ∧ u = .str y ∧ r = decide (x = y) := by
  unfold eqD at e
  split at e
  · rename_i x y
    cases ha; cases hb
    exact .inr ⟨x, y, rfl, rfl, (Option.some.inj e).symm⟩
  · left
    cases q1 : toPy a with
    | none => rw [q1] at e; cases e
    | some p =>
      cases q2 : toPy b with
      | none => rw [q1, q2] at e; cases e
      | some q =>
        rw [q1, q2] at e
        dsimp only at e
        split at e
        · rename_i h
          obtain ⟨h1, h2⟩ := dp_of ha q1
          obtain ⟨h3, h4⟩ := dp_of hb q2
          refine ⟨p, q, h1, h3, ?_, ?_, (Option.some.inj e).symm⟩
          · unfold SeqAt.shaped; rw [h2]; simpa using h.1
          · unfold SeqAt.shaped; rw [h4]; simpa using h.2
        · cases e

/-! ### the operators by data -/
def mulOk (i j : Int) : Bool := (Nat.ble i.natAbs 18446744073709551615 || Nat.ble j.natAbs 18446744073709551615) || Nat.ble (i.natAbs.log2 + j.natAbs.log2) 999999
theorem mulOk_iff {i j : Int} (h : mulOk i j = true) : ((-(2 ^ 64) < i ∧ i < 2 ^ 64) ∨ (-(2 ^ 64) < j ∧ j < 2 ^ 64)) ∨ i.natAbs.log2 + j.natAbs.log2 < 1000000 := by
  unfold mulOk at h
  rw [Bool.or_eq_true, Bool.or_eq_true, Nat.ble_eq, Nat.ble_eq, Nat.ble_eq] at h
  rcases h with (h | h) | h
  · exact .inl (.inl (by omega))
  · exact .inl (.inr (by omega))
  · exact .inr (by omega)
/-- a number above zero -/
def posB : Int → Bool
  | .ofNat (_ + 1) => true
  | _ => false
theorem posB_iff {j : Int} : posB j = true ↔ 0 < j := by
  match j with
  | .ofNat 0 => exact ⟨fun h => (by cases h), fun h => absurd h (by decide)⟩
  | .ofNat (n + 1) => exact ⟨fun _ => by show (0 : Int) < ((n + 1 : Nat) : Int); omega, fun _ => rfl⟩
  | .negSucc n => exact ⟨fun h => (by cases h), fun h => by omega⟩
def divOk (j : Int) : Bool := posB j && Nat.ble j.natAbs.log2 8999
theorem divOk_iff {j : Int} (h : divOk j = true) : 0 < j ∧ j.natAbs.log2 < 9000 := by
  unfold divOk at h
  rw [Bool.and_eq_true, posB_iff, Nat.ble_eq] at h
  exact ⟨h.1, by omega⟩
def repOk (j : Int) : Bool := Nat.ble j.natAbs 9223372036854775807
theorem repOk_iff {j : Int} (h : repOk j = true) : -(2 ^ 63) ≤ j ∧ j < 2 ^ 63 := by
  unfold repOk at h
  rw [Nat.ble_eq] at h
  exact ⟨by omega, by omega⟩
def powOk (i j : Int) : Bool := (match j with | .ofNat k => Nat.ble k 1000000 | _ => false) && Nat.ble i.natAbs 18446744073709551615
theorem powOk_iff {i j : Int} (h : powOk i j = true) : 0 ≤ j ∧ j ≤ 1000000 ∧ i.natAbs < 2 ^ 64 := by
  unfold powOk at h
  rw [Bool.and_eq_true, Nat.ble_eq] at h
  obtain ⟨h1, h2⟩ := h
  match j, h1 with
  | .ofNat k, h1 =>
    have h1 : Nat.ble k 1000000 = true := h1
    rw [Nat.ble_eq] at h1
    exact ⟨by show (0 : Int) ≤ (k : Int); omega, by show (k : Int) ≤ 1000000; omega, by omega⟩
def addD : D → D → Mu → Res
  | .int i, .int j, μ => .ok (.val (.int (i + j))) μ
  | .str a, .str b, μ => if a.length + b.length ≤ sizeLine then .ok (.val (.str (a ++ b))) μ else .bad
  | .lst a, .lst b, μ => if a.length + b.length ≤ sizeLine then .ok (.newL (a ++ b)) μ else .bad
  | .tup a, .tup b, μ => if a.length + b.length ≤ sizeLine then .ok (.val (.tup (a ++ b))) μ else .bad
  | _, _, _ => .bad
def subD : D → D → Mu → Res
  | .int i, .int j, μ => .ok (.val (.int (i - j))) μ
  | _, _, _ => .bad
def mulD : D → D → Mu → Res
  | .int i, .int j, μ => if mulOk i j = true then .ok (.val (.int (i * j))) μ else .bad
  | .lst a, .int j, μ => if a.length * j.toNat ≤ sizeLine ∧ repOk j = true then .ok (.newL (List.replicate j.toNat a).flatten) μ else .bad
  | _, _, _ => .bad
def divD : D → D → Mu → Res
  | .int i, .int j, μ => if divOk j = true then .ok (.val (.int (i / j))) μ else .bad
  | _, _, _ => .bad
def modD : D → D → Mu → Res
  | .int i, .int j, μ => if posB j = true then .ok (.val (.int (i % j))) μ else .bad
  | _, _, _ => .bad
def powD : D → D → Mu → Res
  | .int i, .int j, μ => if powOk i j = true then .ok (.val (.int (i ^ j.toNat))) μ else .bad
  | _, _, _ => .bad
def ltD : D → D → Mu → Res
  | .int i, .int j, μ => .ok (.val (.bl (decide (i < j)))) μ
  | _, _, _ => .bad
def leD : D → D → Mu → Res
  | .int i, .int j, μ => .ok (.val (.bl (decide (i ≤ j)))) μ
  | _, _, _ => .bad
def gtD : D → D → Mu → Res
  | .int i, .int j, μ => .ok (.val (.bl (decide (j < i)))) μ
  | _, _, _ => .bad
def geD : D → D → Mu → Res
  | .int i, .int j, μ => .ok (.val (.bl (decide (j ≤ i)))) μ
  | _, _, _ => .bad
def eqR (a b : D) (μ : Mu) : Res := match eqD a b with
  | some r => .ok (.val (.bl r)) μ
  | none => .bad
def neR (a b : D) (μ : Mu) : Res := match eqD a b with
  | some r => .ok (.val (.bl (!r))) μ
  | none => .bad
def isNon : D → Bool
  | .non => true
  | _ => false
/-- x in y: a text in a text; data in a list -/
def inD (a b : D) : Option Bool := match b with
  | .str y => match a with
    | .str x => some (!(Builtin.Str.occurrences y x 0 y.length 1).isEmpty)
    | _ => none
  | .lst bs => match toPy a, toPys bs with
    | some p, some q => if p.depth ≤ 64 ∧ PyData.depthAll q + 1 ≤ 64 then some (q.any fun z => PyData.eqv z p) else none
    | _, _ => none
  | _ => none
theorem inD_two {K : PySem.W.Frag} {H : Hp} {a b : D} {v u : V} {r : Bool} (ha : Rep K H a v) (hb : Rep K H b u) (e : inD a b = some r) :
    (∃ p ds, Dp K H v p ∧ Dp K H u (.list ds) ∧ SeqAt.shaped p = true ∧ SeqAt.shaped (.list ds) = true ∧ r = ds.any fun z => PyData.eqv z p) ∨
      ∃ x y, v = .str x ∧ u = .str y ∧ r = !(Builtin.Str.occurrences y x 0 y.length 1).isEmpty := by
  unfold inD at e
  split at e
  · split at e
    · cases ha; cases hb
      exact .inr ⟨_, _, rfl, rfl, (Option.some.inj e).symm⟩
    · cases e
  · rename_i bs
    cases q1 : toPy a with
    | none => rw [q1] at e; cases e
    | some pa =>
      cases q2 : toPys bs with
      | none => rw [q1, q2] at e; cases e
      | some qs =>
        rw [q1, q2] at e
        dsimp only at e
        split at e
        · rename_i h
          obtain ⟨h1, h2⟩ := dp_of ha q1
          have q3 : toPy (.lst bs) = some (.list qs) := by unfold toPy; rw [q2]; rfl
          obtain ⟨h3, h4⟩ := dp_of hb q3
          refine .inl ⟨pa, qs, h1, h3, ?_, ?_, (Option.some.inj e).symm⟩
          · unfold SeqAt.shaped; rw [h2]; simpa using h.1
          · unfold SeqAt.shaped; rw [h4]; simpa [PyData.depth] using h.2
        · cases e
  · cases e
def inR (a b : D) (μ : Mu) : Res := match inD a b with
  | some r => .ok (.val (.bl r)) μ
  | none => .bad
def notInR (a b : D) (μ : Mu) : Res := match inD a b with
  | some r => .ok (.val (.bl (!r))) μ
  | none => .bad
def ixD : D → D → Mu → Res
  | .lst a, .int i, μ => match atI a i with | some d => .ok (.val d) μ | none => .bad
  | .frl a, .int i, μ => match atI a i with | some d => .ok (.val d) μ | none => .bad
  | .tup a, .int i, μ => match atI a i with | some d => .ok (.val d) μ | none => .bad
  | .str a, .int i, μ => if a.length ≤ sizeLine then match atI a.cps.toList i with | some d => .ok (.val (.str ⟨#[d]⟩)) μ | none => .bad else .bad
  | _, _, _ => .bad
/-- what stands under a key -/
def lookK (kvs : List (Key × D)) (k : Key) : Option D := (kvs.find? fun kv => decide (kv.1 = k)).map (·.2)
def dgD : D → D → Mu → Res
  | .dct a, .int i, μ => match lookK a (.inl i) with | some d => .ok (.val d) μ | none => .bad
  | .dct a, .str i, μ => match lookK a (.inr i) with | some d => .ok (.val d) μ | none => .bad
  | _, _, _ => .bad
def two (f : D → D → Mu → Res) (x y : R) (μ : Mu) : Res := match deref μ x, deref μ y with
  | some a, some b => f a b μ
  | _, _ => .bad
def one (f : D → Mu → Res) (x : R) (μ : Mu) : Res := match deref μ x with
  | some a => f a μ
  | none => .bad
@[simp] theorem two_vv {f a b μ} : two f (.val a) (.val b) μ = f a b μ := rfl
@[simp] theorem one_v {f a μ} : one f (.val a) μ = f a μ := rfl
@[simp] theorem one_L {f a μ} : one f (.newL a) μ = f (.lst a) μ := rfl
def eBin (f : D → D → Mu → Res) (fa fb : EF) : EF := fun s μ => (fa s μ).bind fun x μ1 => (fb s μ1).bind fun y μ2 => two f x y μ2
def Bin2 (c : Cc) (W : WX) (f : D → D → Mu → Res) (k : V → V → Hp → VK → Prop) : Prop := ∀ ρ s μ σ H r1 r2 v1 v2 a b Q, Ok c ρ [] s μ σ H → deref μ r1 = some a → deref μ r2 = some b →
  Tmp c.K ρ (hid H ρ) r1 v1 → Tmp c.K ρ (hid H ρ) r2 v2 → Post c W ρ H s σ Q (f a b μ) → k v1 v2 H Q
section
variable {c : Cc} {W : WX} {X : Cx}
theorem two_post {ρ : List Addr} {H : Hp} {s : Sl} {σ : St} {Q : VK} {f : D → D → Mu → Res} {x y : R} {μ : Mu} (p : Post c W ρ H s σ Q (two f x y μ)) : ∃ a b, deref μ x = some a ∧ deref μ y = some b ∧ Post c W ρ H s σ Q (f a b μ) := by
  unfold two at p
  split at p
  · exact ⟨_, _, by assumption, by assumption, p⟩
  · exact p.elim
theorem one_post {ρ : List Addr} {H : Hp} {s : Sl} {σ : St} {Q : VK} {f : D → Mu → Res} {x : R} {μ : Mu} (p : Post c W ρ H s σ Q (one f x μ)) : ∃ a, deref μ x = some a ∧ Post c W ρ H s σ Q (f a μ) := by
  unfold one at p
  split at p
  · exact ⟨_, by assumption, p⟩
  · exact p.elim
theorem bin_imp {f : D → D → Mu → Res} {fa fb : EF} {k : V → V → Hp → VK → Prop} (h : Bin2 c W f k) (σ : St) (H : Hp) (Q : VK) (q : tD c W (eBin f fa fb) σ H Q) :
    tD c W fa σ H fun x H1 => tD c W fb σ H1 fun y H2 => k x y H2 Q :=
  tD_two (g := two f) (fun ρ s μ σ H r1 r2 v1 v2 Q t1 t2 p => by
    obtain ⟨a, b, e1, e2, p⟩ := two_post p
    exact h ρ s μ σ H r1 r2 v1 v2 a b Q t2.ok e1 e2 t1 t2.tmp p) σ H Q q
theorem de_bin {op : Operator} {rr : R2} {f : D → D → Mu → Res} {a b : Expr} {fa fb : EF} {pos : Pos} (ho : OpR X (binaryOp op) rr) (h : Bin2 c W f rr) (ha : PE X a (tD c W fa)) (hb : PE X b (tD c W fb)) :
    PE X (.BinOp a op b pos) (tD c W (eBin f fa fb)) := (pe_op ho ha hb).imp (bin_imp h)
theorem de_cmpR {op : CmpOp} {rr : R2} {f : D → D → Mu → Res} {a b : Expr} {fa fb : EF} {pos : Pos} (ho : OpR X (compareOp op) rr) (h : Bin2 c W f rr) (ha : PE X a (tD c W fa)) (hb : PE X b (tD c W fb)) (hm : behindInMarks op b = false) :
    PE X (.Compare a [op] [b] pos) (tD c W (eBin f fa fb)) := (pe_cmpR ho ha hb hm).imp (bin_imp h)

/-! names, constants -/
def eVar (i : Nat) : EF := fun s μ => match s[i]? with
  | some (some r) => .ok r μ
  | _ => .bad
def eC (d : D) : EF := fun _ μ => .ok (.val d) μ
theorem SlK.sto {K : PySem.W.Frag} {ρ : List Addr} {H : Hp} {s : Sl} {σ : St} (h : SlK K ρ H s σ) {i : Nat} {r : R} (e : s[i]? = some (some r)) : ∃ v, σ[i]? = some (some v) ∧ Tmp K ρ H r v := h.get e
/-- what stands in slots is told as data or an object -/
def norm : R → R
  | .newL xs => .val (.lst xs)
  | .newD xs => .val (.dct xs)
  | r => r
theorem xo_norm {r : R} {v : V} : xo (norm r) v = [] := by cases r <;> rfl
theorem Tmp.norm {K : PySem.W.Frag} {ρ : List Addr} {H : Hp} : ∀ {r : R} {v : V}, Tmp K ρ H r v → Tmp K ρ H (norm r) v
  | .val _, _, h => h
  | .obj _, _, h => h
  | .newL _, _, h => h
  | .newD _, _, h => h
theorem RepR.of_tmp {ρ : List Addr} {s : Sl} {μ : Mu} {σ : St} {H : Hp} (k : Ok c ρ [] s μ σ H) : ∀ {r : R} {v : V}, Tmp c.K ρ (hid H ρ) r v → RepR c ρ s μ σ H (norm r) v
  | .val _, _, h => ⟨h, k⟩
  | .obj _, _, h => ⟨h, k⟩
  | .newL _, _, h => ⟨h, k⟩
  | .newD _, _, h => ⟨h, k⟩
end
def eVarN (i : Nat) : EF := fun s μ => match s[i]? with
  | some (some r) => .ok (norm r) μ
  | _ => .bad
section
variable {c : Cc} {W : WX} {X : Cx}
theorem de_var {i : Nat} {x : Str} {pos : Pos} (h : PE X (.Name x pos) (tVar i)) : PE X (.Name x pos) (tD c W (eVarN i)) := h.imp fun σ H Q q => by
  obtain ⟨ρ, s, μ, ok, p⟩ := q
  unfold eVarN at p
  split at p
  · rename_i r e
    obtain ⟨v, h1, h2⟩ := ok.sl.get e
    exact ⟨v, h1, p v H ρ (by rw [xo_norm]; exact .refl) (RepR.of_tmp ok (by simpa using h2))⟩
  · exact p.elim
theorem de_c {d : D} {v : V} {e : Expr} (h : PE X e (tC v)) (r : ∀ K H, Rep K H d v) : PE X e (tD c W (eC d)) := h.imp fun σ H Q q => by
  obtain ⟨ρ, s, μ, ok, p⟩ := q
  exact p v H ρ .refl ⟨r _ _, ok⟩
theorem de_int {i j pos} : PE X (.Constant (.int i) j pos) (tD c W (eC (.int i))) := de_c pe_int fun _ _ => .int i
theorem de_bl {b j pos} : PE X (.Constant (.bool b) j pos) (tD c W (eC (.bl b))) := de_c pe_bl fun _ _ => .bl b
theorem de_non {j pos} : PE X (.Constant .none j pos) (tD c W (eC .non)) := de_c pe_non fun _ _ => .non
theorem de_str {x j pos} : PE X (.Constant (.str x) j pos) (tD c W (eC (.str x))) := de_c pe_str fun _ _ => .str x

/-! the operators' rules -/
theorem b_add : Bin2 c W addD (fun x y H Q => (∃ i j, x = .int i ∧ y = .int j ∧ Q (.int (i + j)) H) ∨ (∃ i j, x = .str i ∧ y = .str j ∧ i.length + j.length ≤ sizeLine ∧ Q (.str (i ++ j)) H) ∨ rCat x y H Q ∨ rCatA c.K x y H Q) := by
  intro ρ s μ σ H r1 r2 v1 v2 a b Q ok e1 e2 t1 t2 p
  unfold addD at p
  split at p
  · exact .inl ⟨_, _, int_of t1 e1, int_of t2 e2, p.val ok (.int _)⟩
  · split at p
    · rename_i h; exact .inr (.inl ⟨_, _, str_of t1 e1, str_of t2 e2, h, p.val ok (.str _)⟩)
    · exact p.elim
  · split at p
    · rename_i h
      obtain ⟨a1, vs1, rfl, h1, l1, q1⟩ := lst_of ok.g t1 e1
      obtain ⟨a2, vs2, rfl, h2, l2, q2⟩ := lst_of ok.g t2 e2
      refine .inr (.inr (.inl ⟨_, _, vs1, vs2, rfl, rfl, h1, h2, ?_, ?_⟩))
      · rw [q1.length, q2.length]; exact h
      · exact p.newL ok (q1.append q2) (by rw [List.length_append, q1.length, q2.length]; exact h)
    · exact p.elim
  · split at p
    · rename_i xs ys h
      obtain ⟨a1, vs1, rfl, h1, n1, l1, q1⟩ := tup_of t1 e1
      obtain ⟨a2, vs2, rfl, h2, n2, l2, q2⟩ := tup_of t2 e2
      refine .inr (.inr (.inr ⟨_, _, vs1, vs2, rfl, rfl, .of h1, .of h2, ?_, fun z => ?_, fun z z2 => ?_, fun _ _ => ?_⟩))
      · rw [q1.length, q2.length]; exact h
      · subst z
        have e : xs = [] := by cases q1; rfl
        subst e
        exact p.val ok (.tup (hid_some.mpr ⟨n2, h2⟩) l2 (by simpa using q2))
      · subst z2
        have e : ys = [] := by cases q2; rfl
        subst e
        exact p.val ok (.tup (hid_some.mpr ⟨n1, h1⟩) l1 (by simpa using q1))
      · exact p.newT ok (q1.append q2) (by rw [List.length_append, q1.length, q2.length]; exact h)
    · exact p.elim
  · exact p.elim
theorem de_add {a b : Expr} {fa fb : EF} {pos : Pos} (hK : c.K = X.K) (ha : PE X a (tD c W fa)) (hb : PE X b (tD c W fb)) : PE X (.BinOp a .Add b pos) (tD c W (eBin addD fa fb)) :=
  de_bin (op_add.or (op_add_str.or (op_cat.or (hK ▸ op_catA)))) b_add ha hb
theorem b_int {f : D → D → Mu → Res} {C : Int → Int → Prop} {g : Int → Int → V} (h : ∀ a b μ, f a b μ = .bad ∨ ∃ i j d, a = .int i ∧ b = .int j ∧ C i j ∧ f a b μ = .ok (.val d) μ ∧ ∀ K H, Rep K H d (g i j)) : Bin2 c W f (rI C g) := by
  intro ρ s μ σ H r1 r2 v1 v2 a b Q ok e1 e2 t1 t2 p
  rcases h a b μ with h | ⟨i, j, d, rfl, rfl, hc, hf, hr⟩
  · rw [h] at p; exact p.elim
  · rw [hf] at p
    exact ⟨i, j, int_of t1 e1, int_of t2 e2, hc, p.val ok (hr _ _)⟩
theorem b_int0 {f : D → D → Mu → Res} {g : Int → Int → V} (h : ∀ a b μ, f a b μ = .bad ∨ ∃ i j d, a = .int i ∧ b = .int j ∧ f a b μ = .ok (.val d) μ ∧ ∀ K H, Rep K H d (g i j)) : Bin2 c W f (rI0 g) := by
  intro ρ s μ σ H r1 r2 v1 v2 a b Q ok e1 e2 t1 t2 p
  rcases h a b μ with h | ⟨i, j, d, rfl, rfl, hf, hr⟩
  · rw [h] at p; exact p.elim
  · rw [hf] at p
    exact ⟨i, j, int_of t1 e1, int_of t2 e2, p.val ok (hr _ _)⟩
theorem de_sub {a b : Expr} {fa fb : EF} {pos : Pos} (ha : PE X a (tD c W fa)) (hb : PE X b (tD c W fb)) : PE X (.BinOp a .Sub b pos) (tD c W (eBin subD fa fb)) :=
  de_bin op_sub (b_int0 fun a b μ => by
    unfold subD; split
    · exact .inr ⟨_, _, _, rfl, rfl, rfl, fun _ _ => .int _⟩
    · exact .inl rfl) ha hb
theorem b_mul : Bin2 c W mulD (fun x y H Q => rI CMul (fun i j => .int (i * j)) x y H Q ∨ rI CMulW (fun i j => .int (i * j)) x y H Q ∨ rRep x y H Q) := by
  intro ρ s μ σ H r1 r2 v1 v2 a b Q ok e1 e2 t1 t2 p
  unfold mulD at p
  split at p
  · split at p
    · rename_i h
      rcases mulOk_iff h with h | h
      · exact .inl ⟨_, _, int_of t1 e1, int_of t2 e2, h, p.val ok (.int _)⟩
      · exact .inr (.inl ⟨_, _, int_of t1 e1, int_of t2 e2, h, p.val ok (.int _)⟩)
    · exact p.elim
  · split at p
    · rename_i h
      obtain ⟨a1, vs1, rfl, h1, l1, q1⟩ := lst_of ok.g t1 e1
      refine .inr (.inr ⟨_, _, vs1, rfl, int_of t2 e2, h1, (repOk_iff h.2).1, (repOk_iff h.2).2, by rw [q1.length]; exact h.1, ?_⟩)
      exact p.newL ok (q1.repl _) (by rw [List.length_flatten, List.map_replicate, List.sum_replicate_nat, q1.length, Nat.mul_comm]; exact h.1)
    · exact p.elim
  · exact p.elim
theorem de_mul {a b : Expr} {fa fb : EF} {pos : Pos} (ha : PE X a (tD c W fa)) (hb : PE X b (tD c W fb)) : PE X (.BinOp a .Mult b pos) (tD c W (eBin mulD fa fb)) :=
  de_bin (op_mul.or (op_mulW.or op_rep)) b_mul ha hb
theorem de_div {a b : Expr} {fa fb : EF} {pos : Pos} (ha : PE X a (tD c W fa)) (hb : PE X b (tD c W fb)) : PE X (.BinOp a .FloorDiv b pos) (tD c W (eBin divD fa fb)) :=
  de_bin op_fdivW (b_int fun a b μ => by
    unfold divD; split
    · split
      · rename_i i j _ h
        exact .inr ⟨_, _, _, rfl, rfl, divOk_iff h, rfl, fun _ _ => .int _⟩
      · exact .inl rfl
    · exact .inl rfl) ha hb
theorem de_mod {a b : Expr} {fa fb : EF} {pos : Pos} (ha : PE X a (tD c W fa)) (hb : PE X b (tD c W fb)) : PE X (.BinOp a .Mod b pos) (tD c W (eBin modD fa fb)) :=
  de_bin op_mod (b_int fun a b μ => by
    unfold modD; split
    · split
      · rename_i i j _ h
        exact .inr ⟨_, _, _, rfl, rfl, posB_iff.mp h, rfl, fun _ _ => .int _⟩
      · exact .inl rfl
    · exact .inl rfl) ha hb
theorem de_pow {a b : Expr} {fa fb : EF} {pos : Pos} (ha : PE X a (tD c W fa)) (hb : PE X b (tD c W fb)) : PE X (.BinOp a .Pow b pos) (tD c W (eBin powD fa fb)) :=
  de_bin op_pow (b_int fun a b μ => by
    unfold powD; split
    · split
      · rename_i i j _ h
        exact .inr ⟨_, _, _, rfl, rfl, powOk_iff h, rfl, fun _ _ => .int _⟩
      · exact .inl rfl
    · exact .inl rfl) ha hb
theorem b_lt : Bin2 c W ltD (rI0 fun i j => .bl (decide (i < j))) := b_int0 fun a b μ => by
  unfold ltD; split
  · exact .inr ⟨_, _, _, rfl, rfl, rfl, fun _ _ => .bl _⟩
  · exact .inl rfl
theorem b_le : Bin2 c W leD (rI0 fun i j => .bl (decide (i ≤ j))) := b_int0 fun a b μ => by
  unfold leD; split
  · exact .inr ⟨_, _, _, rfl, rfl, rfl, fun _ _ => .bl _⟩
  · exact .inl rfl
theorem b_gt : Bin2 c W gtD (rI0 fun i j => .bl (decide (j < i))) := b_int0 fun a b μ => by
  unfold gtD; split
  · exact .inr ⟨_, _, _, rfl, rfl, rfl, fun _ _ => .bl _⟩
  · exact .inl rfl
theorem b_ge : Bin2 c W geD (rI0 fun i j => .bl (decide (j ≤ i))) := b_int0 fun a b μ => by
  unfold geD; split
  · exact .inr ⟨_, _, _, rfl, rfl, rfl, fun _ _ => .bl _⟩
  · exact .inl rfl
theorem b_eq : Bin2 c W eqR (fun x y H Q => rEqD c.K x y H Q ∨ rEq x y H Q) := by
  intro ρ s μ σ H r1 r2 v1 v2 a b Q ok e1 e2 t1 t2 p
  unfold eqR at p
  split at p
  · rename_i r e
    rcases eqD_two (rep_of ok.g t1 e1) (rep_of ok.g t2 e2) e with ⟨p1, q1, h1, h2, h3, h4, rfl⟩ | ⟨x, y, rfl, rfl, rfl⟩
    · exact .inl ⟨p1, q1, h1, h2, h3, h4, p.val ok (.bl _)⟩
    · refine .inr ⟨rfl, ?_⟩
      have e : decide (V.str x = V.str y) = decide (x = y) := by simp
      rw [e]
      exact p.val ok (.bl _)
  · exact p.elim
theorem b_ne : Bin2 c W neR (fun x y H Q => rNeD c.K x y H Q ∨ rNe x y H Q) := by
  intro ρ s μ σ H r1 r2 v1 v2 a b Q ok e1 e2 t1 t2 p
  unfold neR at p
  split at p
  · rename_i r e
    rcases eqD_two (rep_of ok.g t1 e1) (rep_of ok.g t2 e2) e with ⟨p1, q1, h1, h2, h3, h4, rfl⟩ | ⟨x, y, rfl, rfl, rfl⟩
    · exact .inl ⟨p1, q1, h1, h2, h3, h4, p.val ok (.bl _)⟩
    · refine .inr ⟨rfl, ?_⟩
      have e : decide (V.str x = V.str y) = decide (x = y) := by simp
      rw [e]
      exact p.val ok (.bl _)
  · exact p.elim
theorem b_in : Bin2 c W inR (fun x y H Q => rInD c.K x y H Q ∨ ∃ i j, x = .str i ∧ y = .str j ∧ Q (.bl (!(Builtin.Str.occurrences j i 0 j.length 1).isEmpty)) H) := by
  intro ρ s μ σ H r1 r2 v1 v2 a b Q ok e1 e2 t1 t2 p
  unfold inR at p
  split at p
  · rename_i r e
    rcases inD_two (rep_of ok.g t1 e1) (rep_of ok.g t2 e2) e with ⟨p1, ds, h1, h2, h3, h4, rfl⟩ | ⟨x, y, rfl, rfl, rfl⟩
    · exact .inl ⟨p1, ds, h1, h2, h3, h4, p.val ok (.bl _)⟩
    · exact .inr ⟨x, y, rfl, rfl, p.val ok (.bl _)⟩
  · exact p.elim
theorem b_notIn : Bin2 c W notInR (fun x y H Q => rNotInD c.K x y H Q ∨ ∃ i j, x = .str i ∧ y = .str j ∧ Q (.bl (!(!(Builtin.Str.occurrences j i 0 j.length 1).isEmpty))) H) := by
  intro ρ s μ σ H r1 r2 v1 v2 a b Q ok e1 e2 t1 t2 p
  unfold notInR at p
  split at p
  · rename_i r e
    rcases inD_two (rep_of ok.g t1 e1) (rep_of ok.g t2 e2) e with ⟨p1, ds, h1, h2, h3, h4, rfl⟩ | ⟨x, y, rfl, rfl, rfl⟩
    · exact .inl ⟨p1, ds, h1, h2, h3, h4, p.val ok (.bl _)⟩
    · exact .inr ⟨x, y, rfl, rfl, p.val ok (.bl _)⟩
  · exact p.elim
/-! the comparisons: operator's rule, reading, data -/
theorem o_lt : OpR X (compareOp .Lt) (rI0 fun i j => .bl (decide (i < j))) := op_lt
theorem o_eq (hK : c.K = X.K) (hu : X.A.units + 64 < cLine) : OpR X (compareOp .Eq) (fun x y H Q => rEqD c.K x y H Q ∨ rEq x y H Q) := hK ▸ (op_eqD hu).or op_eq
theorem o_ne (hK : c.K = X.K) (hu : X.A.units + 64 < cLine) : OpR X (compareOp .NotEq) (fun x y H Q => rNeD c.K x y H Q ∨ rNe x y H Q) := hK ▸ (op_neD hu).or op_ne
theorem o_in (hK : c.K = X.K) (hu : X.A.units + 65 < cLine) : OpR X (compareOp .In) (fun x y H Q => rInD c.K x y H Q ∨ ∃ i j, x = .str i ∧ y = .str j ∧ Q (.bl (!(Builtin.Str.occurrences j i 0 j.length 1).isEmpty)) H) := hK ▸ (op_inD hu).or op_in_str
theorem o_notIn (hK : c.K = X.K) (hu : X.A.units + 65 < cLine) : OpR X (compareOp .NotIn) (fun x y H Q => rNotInD c.K x y H Q ∨ ∃ i j, x = .str i ∧ y = .str j ∧ Q (.bl (!(!(Builtin.Str.occurrences j i 0 j.length 1).isEmpty))) H) := hK ▸ (op_notInD hu).or op_notin_str
end
end Dl

namespace Dl
open PySem PySem.Spec PyProof.Rows L2
/-! ### tests -/
def asB (x : R) (μ : Mu) : ResB := match x with
  | .val (.bl b) => .ok b μ
  | _ => .bad
@[simp] theorem asB_bl {b μ} : asB (.val (.bl b)) μ = .ok b μ := rfl
/-- an expression whose value is a truth -/
def tOf (f : EF) : TF := fun s μ => (f s μ).bindB fun x μ1 => asB x μ1
def tAndF (f g : TF) : TF := fun s μ => (f s μ).bindB fun b μ1 => if b = true then g s μ1 else .ok false μ1
def tOrF (f g : TF) : TF := fun s μ => (f s μ).bindB fun b μ1 => if b = true then .ok true μ1 else g s μ1
def tNotF (f : TF) : TF := fun s μ => (f s μ).bindB fun b μ1 => .ok (!b) μ1
def eIf (t : TF) (f g : EF) : EF := fun s μ => (t s μ).bind fun b μ1 => if b = true then f s μ1 else g s μ1
/-- and, or, not as values: truths -/
def eAnd (f g : EF) : EF := fun s μ => (f s μ).bind fun x μ1 => match x with
  | .val (.bl b) => if b = true then g s μ1 else .ok (.val (.bl false)) μ1
  | _ => .bad
def eOr (f g : EF) : EF := fun s μ => (f s μ).bind fun x μ1 => match x with
  | .val (.bl b) => if b = true then .ok (.val (.bl true)) μ1 else g s μ1
  | _ => .bad
def eNot (f : EF) : EF := fun s μ => (f s μ).bind fun x μ1 => match x with
  | .val (.bl b) => .ok (.val (.bl (!b))) μ1
  | _ => .bad
section
variable {c : Cc} {W : WX} {X : Cx} {a b e : Expr} {fa fb fc : EF} {ta tb : TF} {pos : Pos} {rest : List Expr}
theorem asB_ok {ρ : List Addr} {s : Sl} {μ : Mu} {σ : St} {H : Hp} {r : R} {v : V} {Q : Bool → Hp → Prop} (rep : RepR c ρ s μ σ H r v) (p : PostB c W ρ H s σ Q (asB r μ)) : ∃ k, v = .bl k ∧ Q k H := by
  unfold asB at p
  split at p
  · obtain ⟨h, o⟩ := rep
    cases h
    exact ⟨_, rfl, p H ρ .refl o⟩
  · exact p.elim
theorem dt_of (h : PT X e (tB (tD c W fa))) : PT X e (tT c W (tOf fa)) := h.imp fun σ H Q q =>
  tD_bindB (g := fun _ x μ1 => asB x μ1) (k := fun σ x H Q => ∃ k, x = .bl k ∧ Q k H) (fun ρ s μ σ H r v Q rep p => asB_ok rep p) σ H Q q
/-- a truth by its value (calls, names) -/
theorem dt_val (h : PE X e (tD c W fa)) (he : ∀ whole, isTrue e X.env whole = (do let v ← whole; standAt e.pos; holding [v] (truthy v)) := by intro _; rfl) : PT X e (tT c W (tOf fa)) := dt_of (pt_val h he)
theorem dt_cmp {op : CmpOp} {rr : R2} {f : D → D → Mu → Res} (ho : OpR X (compareOp op) rr) (h : Bin2 c W f rr) (ha : PE X a (tD c W fa)) (hb : PE X b (tD c W fb)) (hm : behindInMarks op b = false) :
    PT X (.Compare a [op] [b] pos) (tT c W (tOf (eBin f fa fb))) := dt_of ((pt_cmpR ho ha hb hm).imp fun σ H Q q => bin_imp h σ H _ q)
theorem dw_and1 (ha : PT X a (tT c W ta)) : PW X (.BoolOp .And [a] pos) (tT c W ta) := pw_and1 ha
theorem dw_or1 (ha : PT X a (tT c W ta)) : PW X (.BoolOp .Or [a] pos) (tT c W ta) := pw_or1 ha
theorem dw_and (ha : PT X a (tT c W ta)) (hb : PW X (.BoolOp .And (b :: rest) pos) (tT c W tb)) : PW X (.BoolOp .And (a :: b :: rest) pos) (tT c W (tAndF ta tb)) := (pw_and ha hb).imp fun σ H Q q =>
  tT_bindB (g := fun s b μ1 => if b = true then tb s μ1 else .ok false μ1) (k := fun σ b H Q => if b = true then tT c W tb σ H Q else Q false H) (fun ρ s μ σ H b Q ok p => by
    cases b with
    | true => exact ⟨ρ, s, μ, ok, p⟩
    | false => exact p H ρ .refl ok) σ H Q q
theorem dw_or (ha : PT X a (tT c W ta)) (hb : PW X (.BoolOp .Or (b :: rest) pos) (tT c W tb)) : PW X (.BoolOp .Or (a :: b :: rest) pos) (tT c W (tOrF ta tb)) := (pw_or ha hb).imp fun σ H Q q =>
  tT_bindB (g := fun s b μ1 => if b = true then .ok true μ1 else tb s μ1) (k := fun σ b H Q => if b = true then Q true H else tT c W tb σ H Q) (fun ρ s μ σ H b Q ok p => by
    cases b with
    | false => exact ⟨ρ, s, μ, ok, p⟩
    | true => exact p H ρ .refl ok) σ H Q q
theorem dt_not (ha : PT X a (tT c W ta)) : PT X (.UnaryOp .Not a pos) (tT c W (tNotF ta)) := (pt_not ha).imp fun σ H Q q =>
  tT_bindB (g := fun s b μ1 => .ok (!b) μ1) (k := fun σ b H Q => Q (!b) H) (fun ρ s μ σ H b Q ok p => p H ρ .refl ok) σ H Q q
theorem de_if {t : Expr} (ht : PT X t (tT c W ta)) (ha : PE X a (tD c W fa)) (hb : PE X b (tD c W fb)) : PE X (.IfExp t a b pos) (tD c W (eIf ta fa fb)) := (pe_ifExp ht ha hb).imp fun σ H Q q =>
  tT_bind (g := fun s b μ1 => if b = true then fa s μ1 else fb s μ1) (k := fun σ b H Q => if b = true then tD c W fa σ H Q else tD c W fb σ H Q) (fun ρ s μ σ H b Q ok p => by
    cases b with
    | true => exact ⟨ρ, s, μ, ok, p⟩
    | false => exact ⟨ρ, s, μ, ok, p⟩) σ H Q q
theorem de_one {op : BoolOp} (ha : PE X a (tD c W fa)) : PE X (.BoolOp op [a] pos) (tD c W fa) := pe_one ha
theorem de_and (ha : PE X a (tD c W fa)) (hb : PE X (.BoolOp .And (b :: rest) pos) (tD c W fb)) : PE X (.BoolOp .And (a :: b :: rest) pos) (tD c W (eAnd fa fb)) := (pe_and ha hb).imp fun σ H Q q =>
  tD_bind (g := fun s x μ1 => match x with | .val (.bl b) => if b = true then fb s μ1 else .ok (.val (.bl false)) μ1 | _ => .bad) (k := fun σ x H Q => ∃ c', x = .bl c' ∧ if c' = true then tD c W fb σ H Q else Q (.bl false) H) (fun ρ s μ σ H r v Q rep p => by
    split at p
    · obtain ⟨h, o⟩ := rep
      cases h
      refine ⟨_, rfl, ?_⟩
      split at p
      · rename_i h; rw [if_pos h]; exact ⟨ρ, s, μ, o, p⟩
      · rename_i h; rw [if_neg h]; exact p.val o (.bl _)
    · exact p.elim) σ H Q q
theorem de_or (ha : PE X a (tD c W fa)) (hb : PE X (.BoolOp .Or (b :: rest) pos) (tD c W fb)) : PE X (.BoolOp .Or (a :: b :: rest) pos) (tD c W (eOr fa fb)) := (pe_or ha hb).imp fun σ H Q q =>
  tD_bind (g := fun s x μ1 => match x with | .val (.bl b) => if b = true then .ok (.val (.bl true)) μ1 else fb s μ1 | _ => .bad) (k := fun σ x H Q => ∃ c', x = .bl c' ∧ if c' = true then Q (.bl true) H else tD c W fb σ H Q) (fun ρ s μ σ H r v Q rep p => by
    split at p
    · obtain ⟨h, o⟩ := rep
      cases h
      refine ⟨_, rfl, ?_⟩
      split at p
      · rename_i h; rw [if_pos h]; exact p.val o (.bl _)
      · rename_i h; rw [if_neg h]; exact ⟨ρ, s, μ, o, p⟩
    · exact p.elim) σ H Q q
theorem de_not (ha : PE X a (tD c W fa)) : PE X (.UnaryOp .Not a pos) (tD c W (eNot fa)) := (pe_not ha).imp fun σ H Q q =>
  tD_bind (g := fun s x μ1 => match x with | .val (.bl b) => .ok (.val (.bl (!b))) μ1 | _ => .bad) (k := fun σ x H Q => ∃ c', x = .bl c' ∧ Q (.bl (!c')) H) (fun ρ s μ σ H r v Q rep p => by
    split at p
    · obtain ⟨h, o⟩ := rep
      cases h
      exact ⟨_, rfl, p.val o (.bl _)⟩
    · exact p.elim) σ H Q q
end
/-! ### two comparisons in a row -/
def eChain (f g : D → D → Mu → Res) (fa fb fc : EF) : EF := fun s μ => (fa s μ).bind fun x μ1 => (fb s μ1).bind fun y μ2 => (two f x y μ2).bind fun r μ3 => match r with
  | .val (.bl k) => if k = true then (fc s μ3).bind fun z μ4 => two g y z μ4 else .ok (.val (.bl false)) μ3
  | _ => .bad
section
variable {c : Cc} {W : WX} {X : Cx} {a b d : Expr} {fa fb fc : EF} {pos : Pos}
/-- a comparison whose operator hands back a truth and leaves all as it is -/
def Bin0 (c : Cc) (f : D → D → Mu → Res) (rr : R2) : Prop := ∀ ρ s μ σ H r1 r2 v1 v2 a b, Ok c ρ [] s μ σ H → deref μ r1 = some a → deref μ r2 = some b →
  Tmp c.K ρ (hid H ρ) r1 v1 → Tmp c.K ρ (hid H ρ) r2 v2 → f a b μ = .bad ∨ ∃ k, f a b μ = .ok (.val (.bl k)) μ ∧ ∀ Q : VK, Q (.bl k) H → rr v1 v2 H Q
theorem b0_le : Bin0 c leD (rI0 fun i j => .bl (decide (i ≤ j))) := by
  intro ρ s μ σ H r1 r2 v1 v2 a b ok e1 e2 t1 t2
  unfold leD
  split
  · exact .inr ⟨_, rfl, fun Q q => ⟨_, _, int_of t1 e1, int_of t2 e2, q⟩⟩
  · exact .inl rfl
theorem b0_lt : Bin0 c ltD (rI0 fun i j => .bl (decide (i < j))) := by
  intro ρ s μ σ H r1 r2 v1 v2 a b ok e1 e2 t1 t2
  unfold ltD
  split
  · exact .inr ⟨_, rfl, fun Q q => ⟨_, _, int_of t1 e1, int_of t2 e2, q⟩⟩
  · exact .inl rfl
theorem chain_imp {r r' : R2} {f g : D → D → Mu → Res} (h : Bin0 c f r) (h' : Bin0 c g r') (σ : St) (H : Hp) (Q : VK) (q : tD c W (eChain f g fa fb fc) σ H Q) : tChain r r' (tD c W fa) (tD c W fb) (tD c W fc) σ H Q := by
  refine tD_bind (g := fun s x μ1 => (fb s μ1).bind fun y μ2 => (two f x y μ2).bind fun r μ3 => match r with
    | .val (.bl k) => if k = true then (fc s μ3).bind fun z μ4 => two g y z μ4 else .ok (.val (.bl false)) μ3
    | _ => .bad) (k := fun σ x H1 Q => tD c W fb σ H1 fun y H2 => r x y H2 fun z H3 => ∃ k, z = .bl k ∧ if k = true then tD c W fc σ H3 fun w' H4 => r' y w' H4 Q else Q (.bl false) H3) (fun ρ s μ σ H r1 v1 Q rep p => ?_) σ H Q q
  refine ⟨ρ, s, μ, rep.ok, ?_⟩
  cases e : fb s μ with
  | exc C μ1 => rw [e] at p; exact p
  | bad => rw [e] at p; exact p
  | ok r2 μ2 =>
    rw [e] at p
    intro v2 H2 ρ2 st rep2
    have t1 := rep.tmp.keep st.ext st.weak.keep
    have p := Post.from st.weak p
    dsimp only [bind_ok] at p
    unfold two at p
    cases e1 : deref μ2 r1 with
    | none => rw [e1] at p; exact p.elim
    | some a1 =>
      cases e2 : deref μ2 r2 with
      | none => rw [e1, e2] at p; exact p.elim
      | some b1 =>
        rw [e1, e2] at p
        dsimp only at p
        rcases h _ _ _ _ _ _ _ _ _ _ _ rep2.ok e1 e2 t1 rep2.tmp with z | ⟨k, z, hq⟩
        · rw [z] at p; exact p.elim
        · rw [z] at p
          refine hq _ ⟨k, rfl, ?_⟩
          cases k with
          | false => exact p.val rep2.ok (.bl _)
          | true =>
            rw [if_pos rfl]
            refine ⟨ρ2, s, μ2, rep2.ok, ?_⟩
            dsimp only [bind_ok] at p
            rw [if_pos rfl] at p
            cases e3 : fc s μ2 with
            | exc C μ1 => rw [e3] at p; exact p
            | bad => rw [e3] at p; exact p
            | ok r3 μ3 =>
              rw [e3] at p
              intro v3 H3 ρ3 st3 rep3
              have t2 := rep2.tmp.keep st3.ext st3.weak.keep
              obtain ⟨a3, b3, e4, e5, p⟩ := two_post (Post.from st3.weak p)
              rcases h' _ _ _ _ _ _ _ _ _ _ _ rep3.ok e4 e5 t2 rep3.tmp with z | ⟨k, z, hq⟩
              · rw [z] at p; exact p.elim
              · rw [z] at p
                exact hq _ (p.val rep3.ok (.bl _))
theorem de_chain {op op' : CmpOp} {r r' : R2} {f g : D → D → Mu → Res} (ho : OpR X (compareOp op) r) (ho' : OpR X (compareOp op') r') (h : Bin0 c f r) (h' : Bin0 c g r') (ha : PE X a (tD c W fa)) (hb : PE X b (tD c W fb)) (hc : PE X d (tD c W fc))
    (hm : lastMarks [op, op'] [b, d] = false := by rfl) : PE X (.Compare a [op, op'] [b, d] pos) (tD c W (eChain f g fa fb fc)) := (pe_chain ho ho' ha hb hc hm).imp (chain_imp h h')
theorem dt_chain {op op' : CmpOp} {r r' : R2} {f g : D → D → Mu → Res} (ho : OpR X (compareOp op) r) (ho' : OpR X (compareOp op') r') (h : Bin0 c f r) (h' : Bin0 c g r') (ha : PE X a (tD c W fa)) (hb : PE X b (tD c W fb)) (hc : PE X d (tD c W fc))
    (hm : lastMarks [op, op'] [b, d] = false := by rfl) : PT X (.Compare a [op, op'] [b, d] pos) (tT c W (tOf (eChain f g fa fb fc))) := dt_of ((pt_chain ho ho' ha hb hc hm).imp fun σ H Q q => chain_imp h h' σ H _ q)
end
/-! ### arguments, displays -/
def aNil : AF := fun _ μ => .ok [] μ
def aCons (f : EF) (g : AF) : AF := fun s μ => (f s μ).bindA fun x μ1 => (g s μ1).bindA fun xs μ2 => .ok (x :: xs) μ2
section
variable {c : Cc} {W : WX} {X : Cx} {a e : Expr} {es : List Expr} {fa : EF} {fs : AF} {pos : Pos}
theorem da_nil : PA X [] (tA c W aNil) := pa_nil.imp fun σ H Q q => by
  obtain ⟨ρ, s, μ, ok, p⟩ := q
  exact p [] H ρ .refl .nil ok
theorem tA_cons {σ : St} {H : Hp} {Q : List V → Hp → Prop} (q : tA c W (aCons fa fs) σ H Q) : tCons (tD c W fa) (tA c W fs) σ H Q := by
  obtain ⟨ρ, s, μ, ok, p⟩ := q
  refine ⟨ρ, s, μ, ok, ?_⟩
  unfold aCons at p
  cases e : fa s μ with
  | exc C μ1 => rw [e] at p; exact p
  | bad => rw [e] at p; exact p
  | ok r μ1 =>
    rw [e] at p
    intro v H1 ρ1 st rep
    have p := PostA.from st.weak p
    refine ⟨ρ1, s, μ1, rep.ok, ?_⟩
    dsimp only [bindA_ok] at p
    cases e2 : fs s μ1 with
    | exc C μ2 => rw [e2] at p; exact p
    | bad => rw [e2] at p; exact p
    | ok rs μ2 =>
      rw [e2] at p
      intro vs H2 ρ2 st2 tm ok2
      exact p (v :: vs) H2 ρ2 st2 (.cons (rep.tmp.keep st2.ext st2.keep) tm) ok2
theorem da_cons (ha : PE X a (tD c W fa)) (hr : PA X es (tA c W fs)) (hs : starEach (a :: es) X.env = (false, eval a X.env) :: starEach es X.env := by rfl) : PA X (a :: es) (tA c W (aCons fa fs)) := (pa_cons ha hr hs).imp fun σ H Q q => tA_cons q
def datas (μ : Mu) : List R → Option (List D)
  | [] => some []
  | .val d :: rs => (datas μ rs).map (d :: ·)
  | .newL xs :: rs => (datas μ rs).map (.lst xs :: ·)
  | .newD xs :: rs => (datas μ rs).map (.dct xs :: ·)
  | .obj _ :: _ => none
theorem datas_ok {K : PySem.W.Frag} {ρ : List Addr} {H : Hp} {μ : Mu} : ∀ {rs : List R} {vs : List V} {ds : List D}, Tmps K ρ H rs vs → datas μ rs = some ds → Reps K H ds vs
  | _, _, ds, .nil, e => by
    have e : ([] : List D) = ds := by simpa [datas] using e
    subst e; exact .nil
  | .val d :: rs, _, ds, .cons t ts, e => by
    unfold datas at e
    cases q : datas μ rs with
    | none => rw [q] at e; cases e
    | some ds' =>
      rw [q] at e
      have e : d :: ds' = ds := by simpa using e
      subst e; exact .cons t (datas_ok ts q)
  | .newL d :: rs, _, ds, .cons t ts, e => by
    unfold datas at e
    cases q : datas μ rs with
    | none => rw [q] at e; cases e
    | some ds' =>
      rw [q] at e
      have e : .lst d :: ds' = ds := by simpa using e
      subst e; exact .cons t (datas_ok ts q)
  | .newD d :: rs, _, ds, .cons t ts, e => by
    unfold datas at e
    cases q : datas μ rs with
    | none => rw [q] at e; cases e
    | some ds' =>
      rw [q] at e
      have e : .dct d :: ds' = ds := by simpa using e
      subst e; exact .cons t (datas_ok ts q)
  | .obj i :: rs, _, ds, .cons t ts, e => by simp [datas] at e
theorem datas_len {μ : Mu} : ∀ {rs : List R} {ds : List D}, datas μ rs = some ds → ds.length = rs.length
  | [], ds, e => by
    have e : ([] : List D) = ds := by simpa [datas] using e
    subst e; rfl
  | .val d :: rs, ds, e => by
    unfold datas at e
    cases q : datas μ rs with
    | none => rw [q] at e; cases e
    | some ds' =>
      rw [q] at e
      have e : d :: ds' = ds := by simpa using e
      subst e; simp [datas_len q]
  | .newL d :: rs, ds, e => by
    unfold datas at e
    cases q : datas μ rs with
    | none => rw [q] at e; cases e
    | some ds' =>
      rw [q] at e
      have e : .lst d :: ds' = ds := by simpa using e
      subst e; simp [datas_len q]
  | .newD d :: rs, ds, e => by
    unfold datas at e
    cases q : datas μ rs with
    | none => rw [q] at e; cases e
    | some ds' =>
      rw [q] at e
      have e : .dct d :: ds' = ds := by simpa using e
      subst e; simp [datas_len q]
  | .obj i :: rs, ds, e => by simp [datas] at e
def eTup (f : AF) : EF := fun s μ => (f s μ).bind fun rs μ1 => match datas μ1 rs with
  | some ds => if ds.length ≤ 1000 then .ok (.val (.tup ds)) μ1 else .bad
  | none => .bad
def eLst (f : AF) : EF := fun s μ => (f s μ).bind fun rs μ1 => match datas μ1 rs with
  | some ds => if ds.length ≤ 1000 then .ok (.newL ds) μ1 else .bad
  | none => .bad
theorem le1000 {n : Nat} (h : n ≤ 1000) : n ≤ sizeLine := Nat.le_trans h (by rw [sizeLine_eq]; decide)
theorem de_tup {x1} (h : PA X es (tA c W fs)) : PE X (.Tuple es x1 pos) (tD c W (eTup fs)) := (pe_tup h).imp fun σ H Q q =>
  tA_bind (g := fun _ rs μ1 => match datas μ1 rs with | some ds => if ds.length ≤ 1000 then .ok (.val (.tup ds)) μ1 else .bad | none => .bad) (k := fun σ xs H1 Q => xs.length ≤ sizeLine ∧ ∀ p, H1 p = none → Q (.ref p) (upd H1 p (.tup xs))) (fun ρ s μ σ H rs vs Q tm ok p => by
    split at p
    · rename_i ds e
      split at p
      · rename_i h
        have r := datas_ok tm e
        have l : vs.length ≤ sizeLine := by rw [r.length]; exact le1000 h
        exact ⟨l, p.newT ok r l⟩
      · exact p.elim
    · exact p.elim) σ H Q q
theorem de_lst (h : PA X es (tA c W fs)) : PE X (.List es pos) (tD c W (eLst fs)) := (pe_lst h).imp fun σ H Q q =>
  tA_bind (g := fun _ rs μ1 => match datas μ1 rs with | some ds => if ds.length ≤ 1000 then .ok (.newL ds) μ1 else .bad | none => .bad) (k := fun σ xs H1 Q => xs.length ≤ sizeLine ∧ ∀ p, H1 p = none → Q (.ref p) (upd H1 p (.lst xs))) (fun ρ s μ σ H rs vs Q tm ok p => by
    split at p
    · rename_i ds e
      split at p
      · rename_i h
        have r := datas_ok tm e
        have l : vs.length ≤ sizeLine := by rw [r.length]; exact le1000 h
        exact ⟨l, p.newL ok r l⟩
      · exact p.elim
    · exact p.elim) σ H Q q
end
end Dl

namespace Dl
open PySem PySem.Spec PyProof.Rows L2
/-! ### items, cuts -/
section
variable {K : PySem.W.Frag} {H : Hp}
theorem Reps.atI {ds : List D} {vs : List V} {i : Int} {d : D} (r : Reps K H ds vs) (e : L2.atI ds i = some d) : ∃ v, L2.atI vs i = some v ∧ Rep K H d v := by
  unfold L2.atI at e ⊢
  rw [r.length]
  cases q : L2.ixN ds.length i with
  | none => rw [q] at e; cases e
  | some j =>
    rw [q] at e
    obtain ⟨v, h1, h2⟩ := r.get (i := j) e
    exact ⟨v, h1, h2⟩
theorem RepK.look {k : Key} : ∀ {ds : List (Key × D)} {vs : List (Key × V)}, RepK K H ds vs → (∃ d v, lookK ds k = some d ∧ valV vs k = some v ∧ Rep K H d v) ∨ (lookK ds k = none ∧ valV vs k = none)
  | _, _, .nil => .inr ⟨rfl, rfl⟩
  | _, _, .cons (k := k') (d := d') (v := v') (ds := ds) (vs := vs) r t => by
    unfold lookK valV
    rw [List.find?_cons, List.find?_cons]
    by_cases h : k' = k
    · subst h
      rw [decide_eq_true rfl]
      exact .inl ⟨d', v', rfl, rfl, r⟩
    · rw [decide_eq_false h]
      exact RepK.look t
theorem RepK.lookS {k : Key} {d : D} {ds : List (Key × D)} {vs : List (Key × V)} (r : RepK K H ds vs) (e : lookK ds k = some d) : ∃ v, valV vs k = some v ∧ Rep K H d v := by
  rcases r.look (k := k) with ⟨d', v, h1, h2, h3⟩ | ⟨h1, _⟩
  · rw [h1] at e; cases e; exact ⟨v, h2, h3⟩
  · rw [h1] at e; cases e
theorem RepK.lookN {k : Key} {ds : List (Key × D)} {vs : List (Key × V)} (r : RepK K H ds vs) (e : lookK ds k = none) : valV vs k = none := by
  rcases r.look (k := k) with ⟨d', v, h1, h2, h3⟩ | ⟨_, h2⟩
  · rw [h1] at e; cases e
  · exact h2
end
def cutL {α : Type} (xs : List α) (lo hi : Option Int) : List α := (xs.drop (HT.sIx xs.length 0 lo)).take (HT.sIx xs.length xs.length hi - HT.sIx xs.length 0 lo)
theorem cutV_eq (xs : List V) (lo hi : Option Int) : cutV xs lo hi = cutL xs lo hi := rfl
theorem cutL_whole {α : Type} {xs : List α} {lo hi : Option Int} (h : HT.sIx xs.length 0 lo = 0 ∧ HT.sIx xs.length xs.length hi = xs.length) : cutL xs lo hi = xs := by
  unfold cutL; rw [h.1, h.2, List.drop_zero, Nat.sub_zero, List.take_length]
theorem Reps.cut {K : PySem.W.Frag} {H : Hp} {ds : List D} {vs : List V} (r : Reps K H ds vs) (lo hi : Option Int) : Reps K H (cutL ds lo hi) (cutV vs lo hi) := by
  rw [cutV_eq]; unfold cutL; rw [r.length]
  exact (r.drop _).take _
def slD : D → Option Int → Option Int → Mu → Res
  | .lst a, lo, hi, μ => .ok (.newL (cutL a lo hi)) μ
  | .tup a, lo, hi, μ => .ok (.val (.tup (cutL a lo hi))) μ
  | .str z, lo, hi, μ => if z.length ≤ sizeLine then .ok (.val (.str (cutS z lo hi))) μ else .bad
  | _, _, _, _ => .bad
def asI (x : R) (μ : Mu) (k : Int → Mu → Res) : Res := match x with
  | .val (.int i) => k i μ
  | _ => .bad
@[simp] theorem asI_int {i μ k} : asI (.val (.int i)) μ k = k i μ := rfl
def eSlN (f h : EF) : EF := fun s μ => (f s μ).bind fun x μ1 => (h s μ1).bind fun y μ2 => asI y μ2 fun j μ3 => one (fun d μ => slD d none (some j) μ) x μ3
def eSlL (f l : EF) : EF := fun s μ => (f s μ).bind fun x μ1 => (l s μ1).bind fun y μ2 => asI y μ2 fun i μ3 => one (fun d μ => slD d (some i) none μ) x μ3
def eSlB (f l h : EF) : EF := fun s μ => (f s μ).bind fun x μ1 => (l s μ1).bind fun y μ2 => asI y μ2 fun i μ3 => (h s μ3).bind fun z μ4 => asI z μ4 fun j μ5 => one (fun d μ => slD d (some i) (some j) μ) x μ5
section
variable {c : Cc} {W : WX} {X : Cx} {a b e lo hi : Expr} {fa fb fl fh : EF} {pos p2 : Pos}
theorem b_ix : Bin2 c W ixD (rIx c.K) := by
  intro ρ s μ σ H r1 r2 v1 v2 a b Q ok e1 e2 t1 t2 p
  have key : ∀ {α : Type} {o : Option D}, Post c W ρ H s σ Q (match o with | some d => Res.ok (.val d) μ | none => .bad) → ∃ d, o = some d ∧ Post c W ρ H s σ Q (.ok (.val d) μ) := by
    intro _ o p
    cases o with
    | none => exact p.elim
    | some d => exact ⟨d, rfl, p⟩
  unfold ixD at p
  split at p
  · obtain ⟨d, q1, p⟩ := key (α := Unit) p
    obtain ⟨a1, vs, rfl, h1, l1, r1⟩ := lst_of ok.g t1 e1
    obtain ⟨v, q2, q3⟩ := r1.atI q1
    exact .inl ⟨a1, vs, _, v, rfl, int_of t2 e2, .of h1, q2, p.val ok q3⟩
  · obtain ⟨d, q1, p⟩ := key (α := Unit) p
    obtain ⟨a1, vs, rfl, h1, l1, r1⟩ := frl_of t1 e1
    obtain ⟨v, q2, q3⟩ := r1.atI q1
    exact .inl ⟨a1, vs, _, v, rfl, int_of t2 e2, h1, q2, p.val ok q3⟩
  · obtain ⟨d, q1, p⟩ := key (α := Unit) p
    obtain ⟨a1, vs, rfl, h1, n1, l1, r1⟩ := tup_of t1 e1
    obtain ⟨v, q2, q3⟩ := r1.atI q1
    exact .inr (.inl ⟨a1, vs, _, v, rfl, int_of t2 e2, .of h1, q2, p.val ok q3⟩)
  · split at p
    · rename_i h
      split at p
      · rename_i q1
        exact .inr (.inr ⟨_, _, _, str_of t1 e1, int_of t2 e2, h, q1, p.val ok (.str _)⟩)
      · exact p.elim
    · exact p.elim
  all_goals exact p.elim
theorem de_ix (hK : c.K = X.K) (ha : PE X a (tD c W fa)) (hb : PE X b (tD c W fb)) (hs : PlainIx b) : PE X (.Subscript a b pos) (tD c W (eBin ixD fa fb)) :=
  (pe_ix (hK ▸ ix_seq) ha hb hs).imp (bin_imp b_ix)
theorem b_dg : Bin2 c W dgD (fun x y H Q => ∃ a v, x = .ref a ∧ DGet H a y (some v) ∧ Q v H) := by
  intro ρ s μ σ H r1 r2 v1 v2 a b Q ok e1 e2 t1 t2 p
  unfold dgD at p
  split at p
  · split at p
    · rename_i q1
      obtain ⟨a1, vs, rfl, h1, r1⟩ := dct_of ok.g t1 e1
      obtain ⟨v, q2, q3⟩ := r1.lookS q1
      exact ⟨a1, v, rfl, .inl ⟨vs, .inl _, h1, int_of t2 e2, q2.symm⟩, p.val ok q3⟩
    · exact p.elim
  · split at p
    · rename_i q1
      obtain ⟨a1, vs, rfl, h1, r1⟩ := dct_of ok.g t1 e1
      obtain ⟨v, q2, q3⟩ := r1.lookS q1
      exact ⟨a1, v, rfl, .inl ⟨vs, .inr _, h1, str_of t2 e2, q2.symm⟩, p.val ok q3⟩
    · exact p.elim
  · exact p.elim
theorem de_dg (hu : X.A.units + 1 < cLine) (ha : PE X a (tD c W fa)) (hb : PE X b (tD c W fb)) (hs : NoSl b) : PE X (.Subscript a b pos) (tD c W (eBin dgD fa fb)) :=
  (pe_dget hu ha hb hs).imp (bin_imp b_dg)
theorem asI_post {ρ : List Addr} {H : Hp} {s : Sl} {σ : St} {Q : VK} {x : R} {μ : Mu} {k : Int → Mu → Res} (p : Post c W ρ H s σ Q (asI x μ k)) : ∃ i, x = .val (.int i) ∧ Post c W ρ H s σ Q (k i μ) := by
  unfold asI at p
  split at p
  · exact ⟨_, rfl, p⟩
  · exact p.elim
theorem sl_ok {ρ : List Addr} {H : Hp} {s : Sl} {μ : Mu} {σ : St} {r : R} {v : V} {l h : Option Int} {Q : VK} (ok : Ok c ρ [] s μ σ H) (t : Tmp c.K ρ (hid H ρ) r v) (p : Post c W ρ H s σ Q (one (fun d μ => slD d l h μ) r μ)) :
    rSlL c.K v l h H Q ∨ rSlA c.K v l h H Q ∨ rSlS v l h H Q := by
  obtain ⟨d, e, p⟩ := one_post p
  unfold slD at p
  split at p
  · obtain ⟨a1, vs, rfl, h1, l1, r1⟩ := lst_of ok.g t e
    exact .inl ⟨a1, vs, rfl, .of h1, p.newL ok (r1.cut _ _) (Nat.le_trans (cutV_length _ _ _) l1)⟩
  · obtain ⟨a1, vs, rfl, h1, n1, l1, r1⟩ := tup_of t e
    refine .inr (.inl ⟨a1, vs, rfl, .of h1, fun z => ?_, fun _ => ?_⟩)
    · rw [r1.length] at z
      rw [cutL_whole z] at p
      exact p.val ok (.tup (hid_some.mpr ⟨n1, h1⟩) l1 r1)
    · exact p.newT ok (r1.cut _ _) (Nat.le_trans (cutV_length _ _ _) l1)
  · split at p
    · rename_i h
      exact .inr (.inr ⟨_, str_of t e, h, p.val ok (.str _)⟩)
    · exact p.elim
  · exact p.elim
theorem sl_all : SlR X (fun x lo hi H Q => rSlL X.K x lo hi H Q ∨ rSlA X.K x lo hi H Q ∨ rSlS x lo hi H Q) := sl_list.or (sl_tupA.or sl_str)
theorem de_slN (hK : c.K = X.K) (ha : PE X a (tD c W fa)) (hh : PE X hi (tD c W fh)) : PE X (.Subscript a (.Slice none (some hi) none p2) pos) (tD c W (eSlN fa fh)) :=
  (pe_slice sl_all ha po_none (po_some hh)).imp fun σ H Q q => by
    refine tD_two (g := fun x y μ2 => asI y μ2 fun j μ3 => one (fun d μ => slD d none (some j) μ) x μ3) (k := fun x y H2 Q => ∃ i, y = .int i ∧ (rSlL X.K x none (some i) H2 Q ∨ rSlA X.K x none (some i) H2 Q ∨ rSlS x none (some i) H2 Q)) (fun ρ s μ σ H r1 r2 v1 v2 Q t1 t2 p => ?_) σ H Q q
    obtain ⟨i, rfl, p⟩ := asI_post p
    exact ⟨i, int_of (μ := μ) t2.tmp rfl, hK ▸ sl_ok t2.ok t1 p⟩
theorem de_slL (hK : c.K = X.K) (ha : PE X a (tD c W fa)) (hl : PE X lo (tD c W fl)) : PE X (.Subscript a (.Slice (some lo) none none p2) pos) (tD c W (eSlL fa fl)) :=
  (pe_slice sl_all ha (po_some hl) po_none).imp fun σ H Q q => by
    refine tD_two (g := fun x y μ2 => asI y μ2 fun j μ3 => one (fun d μ => slD d (some j) none μ) x μ3) (k := fun x y H2 Q => ∃ i, y = .int i ∧ (rSlL X.K x (some i) none H2 Q ∨ rSlA X.K x (some i) none H2 Q ∨ rSlS x (some i) none H2 Q)) (fun ρ s μ σ H r1 r2 v1 v2 Q t1 t2 p => ?_) σ H Q q
    obtain ⟨i, rfl, p⟩ := asI_post p
    exact ⟨i, int_of (μ := μ) t2.tmp rfl, hK ▸ sl_ok t2.ok t1 p⟩
theorem de_slB (hK : c.K = X.K) (ha : PE X a (tD c W fa)) (hl : PE X lo (tD c W fl)) (hh : PE X hi (tD c W fh)) : PE X (.Subscript a (.Slice (some lo) (some hi) none p2) pos) (tD c W (eSlB fa fl fh)) :=
  (pe_slice sl_all ha (po_some hl) (po_some hh)).imp fun σ H Q q => by
    refine tD_bind (g := fun s x μ1 => (fl s μ1).bind fun y μ2 => asI y μ2 fun i μ3 => (fh s μ3).bind fun z μ4 => asI z μ4 fun j μ5 => one (fun d μ => slD d (some i) (some j) μ) x μ5)
      (k := fun σ x H1 Q => tPart (tD c W fl) σ H1 fun l H2 => tPart (tD c W fh) σ H2 fun u H3 => rSlL X.K x l u H3 Q ∨ rSlA X.K x l u H3 Q ∨ rSlS x l u H3 Q) (fun ρ s μ σ H r1 v1 Q rep p => ?_) σ H Q q
    refine ⟨ρ, s, μ, rep.ok, ?_⟩
    cases e : fl s μ with
    | exc C μ1 => rw [e] at p; exact p
    | bad => rw [e] at p; exact p
    | ok r2 μ2 =>
      rw [e] at p
      intro v2 H2 ρ2 st rep2
      have t1 := rep.tmp.keep st.ext st.weak.keep
      have p := Post.from st.weak p
      dsimp only [bind_ok] at p
      obtain ⟨i, ex, p3⟩ := asI_post p
      subst ex
      refine ⟨i, int_of (μ := μ2) rep2.tmp rfl, ρ2, s, μ2, rep2.ok, ?_⟩
      cases e3 : fh s μ2 with
      | exc C μ1 => rw [e3] at p3; exact p3
      | bad => rw [e3] at p3; exact p3
      | ok r3 μ3 =>
        rw [e3] at p3
        intro v3 H3 ρ3 st3 rep3
        have p4 := Post.from st3.weak p3
        dsimp only [bind_ok] at p4
        obtain ⟨j, ex, p5⟩ := asI_post p4
        subst ex
        exact ⟨j, int_of (μ := μ3) rep3.tmp rfl, hK ▸ sl_ok rep3.ok (t1.keep st3.ext st3.weak.keep) p5⟩
end
/-! ### built-in calls -/
def eCall (g : List R → Mu → Res) (fs : AF) : EF := fun s μ => (fs s μ).bind fun rs μ1 => g rs μ1
/-- what a call does with data -/
def CallD (c : Cc) (W : WX) (g : List R → Mu → Res) (r : List V → Hp → VK → Prop) : Prop := ∀ ρ s μ σ H rs vs Q, Tmps c.K ρ (hid H ρ) rs vs → Ok c ρ [] s μ σ H → Post c W ρ H s σ Q (g rs μ) → r vs H Q
def on1 (f : D → Mu → Res) : List R → Mu → Res
  | [x], μ => one f x μ
  | _, _ => .bad
def on2 (f : D → D → Mu → Res) : List R → Mu → Res
  | [x, y], μ => two f x y μ
  | _, _ => .bad
@[simp] theorem on1_one {f x μ} : on1 f [x] μ = one f x μ := rfl
@[simp] theorem on2_two {f x y μ} : on2 f [x, y] μ = two f x y μ := rfl
section
variable {c : Cc} {W : WX} {X : Cx} {e : Expr} {es : List Expr} {fs : AF} {pos p : Pos} {x : Str}
theorem CallR.or {f : Value} {r r' : List V → Hp → VK → Prop} (h : CallR X f r) (h' : CallR X f r') : CallR X f (fun xs H Q => r xs H Q ∨ r' xs H Q) := by
  intro pins s σ H xs us Q I rv q
  rcases q with q | q
  · exact h pins s σ H xs us Q I rv q
  · exact h' pins s σ H xs us Q I rv q
theorem call_imp {g : List R → Mu → Res} {r : List V → Hp → VK → Prop} (h : CallD c W g r) (σ : St) (H : Hp) (Q : VK) (q : tD c W (eCall g fs) σ H Q) : tCB r (tA c W fs) σ H Q :=
  tA_bind (g := fun _ rs μ1 => g rs μ1) (k := fun σ vs H1 Q => r vs H1 Q) (fun ρ s μ σ H rs vs Q tm ok p => h ρ s μ σ H rs vs Q tm ok p) σ H Q q
theorem de_callB {id : String} {g : List R → Mu → Res} {r : List V → Hp → VK → Prop} (hc : CallR X (.builtin id) r) (h : CallD c W g r) (hg : Gl X x) (hm : X.mg x = none) (hv : bootBuiltins x = some (.builtin id)) (ha : PA X (e :: es) (tA c W fs))
    (hn : x ≠ "__name__" := by decide) (hdb : (x == ("__debug__" : Str)) = false := by decide) (he : starEach (e :: es) X.env = (false, eval e X.env) :: starEach es X.env := by rfl) (hpl : (backTo pos (starEach es X.env)).any (·.1) = false := by rfl) :
    PE X (.Call (.Name x p) (e :: es) [] pos) (tD c W (eCall g fs)) := (pe_callB hc hg hm hv ha hn hdb he hpl).imp (call_imp h)
theorem de_callTy {T : String} {g : List R → Mu → Res} {r : List V → Hp → VK → Prop} (hc : CallR X (.type T) r) (h : CallD c W g r) (hg : Gl X x) (hm : X.mg x = none) (hv : bootBuiltins x = some (.type T)) (ha : PA X (e :: es) (tA c W fs))
    (hn : x ≠ "__name__" := by decide) (hdb : (x == ("__debug__" : Str)) = false := by decide) (he : starEach (e :: es) X.env = (false, eval e X.env) :: starEach es X.env := by rfl) (hpl : (backTo pos (starEach es X.env)).any (·.1) = false := by rfl) :
    PE X (.Call (.Name x p) (e :: es) [] pos) (tD c W (eCall g fs)) := (pe_callTy hc hg hm hv ha hn hdb he hpl).imp (call_imp h)
theorem cd1 {f : D → Mu → Res} {r : V → Hp → VK → Prop} (h : ∀ ρ s μ σ H x v d Q, Ok c ρ [] s μ σ H → Tmp c.K ρ (hid H ρ) x v → deref μ x = some d → Post c W ρ H s σ Q (f d μ) → r v H Q) : CallD c W (on1 f) (fun vs H Q => ∃ v, vs = [v] ∧ r v H Q) := by
  intro ρ s μ σ H rs vs Q tm ok p
  match rs, tm, p with
  | [x], .cons t .nil, p =>
    obtain ⟨d, e, p⟩ := one_post p
    exact ⟨_, rfl, h ρ s μ σ H x _ d Q ok t e p⟩
theorem cd2 {f : D → D → Mu → Res} {r : V → V → Hp → VK → Prop} (h : ∀ ρ s μ σ H x y v u d e Q, Ok c ρ [] s μ σ H → Tmp c.K ρ (hid H ρ) x v → Tmp c.K ρ (hid H ρ) y u → deref μ x = some d → deref μ y = some e → Post c W ρ H s σ Q (f d e μ) → r v u H Q) :
    CallD c W (on2 f) (fun vs H Q => ∃ v u, vs = [v, u] ∧ r v u H Q) := by
  intro ρ s μ σ H rs vs Q tm ok p
  match rs, tm, p with
  | [x, y], .cons t (.cons t2 .nil), p =>
    obtain ⟨d, e, e1, e2, p⟩ := two_post p
    exact ⟨_, _, rfl, h ρ s μ σ H x y _ _ d e Q ok t t2 e1 e2 p⟩
theorem CallD.imp {g : List R → Mu → Res} {r r' : List V → Hp → VK → Prop} (h : CallD c W g r) (k : ∀ vs H Q, r vs H Q → r' vs H Q) : CallD c W g r' := fun ρ s μ σ H rs vs Q tm ok p => k _ _ _ (h ρ s μ σ H rs vs Q tm ok p)
/-! len -/
def lenD : D → Mu → Res
  | .lst a, μ => .ok (.val (.int a.length)) μ
  | .frl a, μ => .ok (.val (.int a.length)) μ
  | .tup a, μ => .ok (.val (.int a.length)) μ
  | .str a, μ => if a.length ≤ sizeLine then .ok (.val (.int a.length)) μ else .bad
  | _, _ => .bad
theorem c_len : CallD c W (on1 lenD) (fun xs H Q => ∃ x n, xs = [x] ∧ LenV c.K x H n ∧ Q (V.int n) H) := (cd1 (r := fun x H Q => ∃ n : Nat, LenV c.K x H n ∧ Q (V.int n) H) fun ρ s μ σ H x v d Q ok t e p => by
  unfold lenD at p
  split at p
  · obtain ⟨a1, vs, rfl, h1, l1, r1⟩ := lst_of ok.g t e
    exact ⟨_, .inl ⟨vs, .of h1, r1.length.symm⟩, p.val ok (.int _)⟩
  · obtain ⟨a1, vs, rfl, h1, l1, r1⟩ := frl_of t e
    exact ⟨_, .inl ⟨vs, h1, r1.length.symm⟩, p.val ok (.int _)⟩
  · obtain ⟨a1, vs, rfl, h1, n1, l1, r1⟩ := tup_of t e
    exact ⟨_, .inr ⟨vs, .of h1, r1.length.symm⟩, p.val ok (.int _)⟩
  · split at p
    · rename_i h
      rw [str_of t e]
      exact ⟨_, ⟨h, rfl⟩, p.val ok (.int _)⟩
    · exact p.elim
  · exact p.elim).imp fun vs H Q ⟨v, e, n, h, q⟩ => ⟨v, n, e, h, q⟩
/-! isinstance -/
def tyName : D → Option String
  | .non => some "NoneType"
  | .bl _ => some "bool"
  | .int _ => some "int"
  | .str _ => some "str"
  | .tup _ => some "tuple"
  | .lst _ => some "list"
  | .frl _ => some "list"
  | .dct _ => some "dict"
  | _ => none
def isiD : D → D → Mu → Res
  | d, .ty n, μ => match tyName d with
    | some t => match kitB t n with
      | some b => .ok (.val (.bl b)) μ
      | none => .bad
    | none => .bad
  | _, _, _ => .bad
theorem tyx_of {K : PySem.W.Frag} {H : Hp} : ∀ {d : D} {v : V} {t : String}, Rep K H d v → tyName d = some t → TyX K H v (.type t)
  | _, _, _, .non, e => by cases e; exact .base .non
  | _, _, _, .bl _, e => by cases e; exact .base (.bl _)
  | _, _, _, .int _, e => by cases e; exact .base (.int _)
  | _, _, _, .str _, e => by cases e; exact .base (.str _)
  | _, _, _, .fn _ _, e => by cases e
  | _, _, _, .ty _, e => by cases e
  | _, _, _, .clo _ _, e => by cases e
  | _, _, _, .tup h _ _, e => by cases e; exact .base (.tup h)
  | _, _, _, .lst h _ _, e => by cases e; exact .base (.lst h)
  | _, _, _, .frl h _ _, e => by
    cases e
    rcases h with (h | ⟨o, h⟩) | ⟨o, its, n, h1, h2, _⟩
    · exact .base (.lst h)
    · exact .base (.frz h)
    · exact .kList h1 h2
  | _, _, _, .dct h _, e => by
    cases e
    rcases h with h | ⟨o, h⟩
    · exact .base (.dK h)
    · exact .fDict h
theorem c_isi : CallD c W (on2 isiD) (rIsi c.K) := (cd2 (r := fun x y H Q => ∃ (t u : Value) (b : Bool), ClsV y u ∧ TyX c.K H x t ∧ PySem.W.kitOne c.K t u = some b ∧ Q (.bl b) H) fun ρ s μ σ H x y v u d e Q ok t1 t2 e1 e2 p => by
  unfold isiD at p
  split at p
  · split at p
    · rename_i ht
      split at p
      · rename_i hb
        rw [ty_of t2 e2]
        exact ⟨_, _, _, .ty _, tyx_of (rep_of ok.g t1 e1) ht, kit_ty hb, p.val ok (.bl _)⟩
      · exact p.elim
    · exact p.elim
  · exact p.elim).imp fun vs H Q ⟨v, u, e, t, w, b, h1, h2, h3, q⟩ => ⟨v, u, t, w, b, e, h1, h2, h3, q⟩
/-! numbers -/
def absD : D → Mu → Res
  | .int i, μ => .ok (.val (.int (if i < 0 then -i else i))) μ
  | _, _ => .bad
theorem c_abs : CallD c W (on1 absD) (fun xs H Q => ∃ i, xs = [.int i] ∧ Q (.int (if i < 0 then -i else i)) H) := (cd1 (r := fun x H Q => ∃ i, x = .int i ∧ Q (.int (if i < 0 then -i else i)) H) fun ρ s μ σ H x v d Q ok t e p => by
  unfold absD at p
  split at p
  · exact ⟨_, int_of t e, p.val ok (.int _)⟩
  · exact p.elim).imp fun vs H Q ⟨v, e, i, h, q⟩ => ⟨i, by rw [e, h], q⟩
def maxD : D → D → Mu → Res
  | .int i, .int j, μ => .ok (.val (.int (if j > i then j else i))) μ
  | _, _, _ => .bad
def minD : D → D → Mu → Res
  | .int i, .int j, μ => .ok (.val (.int (if j < i then j else i))) μ
  | _, _, _ => .bad
theorem c_max : CallD c W (on2 maxD) (fun xs H Q => ∃ i j, xs = [.int i, .int j] ∧ Q (.int (if j > i then j else i)) H) := (cd2 (r := fun x y H Q => ∃ i j, x = .int i ∧ y = .int j ∧ Q (.int (if j > i then j else i)) H) fun ρ s μ σ H x y v u d e Q ok t1 t2 e1 e2 p => by
  unfold maxD at p
  split at p
  · exact ⟨_, _, int_of t1 e1, int_of t2 e2, p.val ok (.int _)⟩
  · exact p.elim).imp fun vs H Q ⟨v, u, e, i, j, h1, h2, q⟩ => ⟨i, j, by rw [e, h1, h2], q⟩
theorem c_min : CallD c W (on2 minD) (fun xs H Q => ∃ i j, xs = [.int i, .int j] ∧ Q (.int (if j < i then j else i)) H) := (cd2 (r := fun x y H Q => ∃ i j, x = .int i ∧ y = .int j ∧ Q (.int (if j < i then j else i)) H) fun ρ s μ σ H x y v u d e Q ok t1 t2 e1 e2 p => by
  unfold minD at p
  split at p
  · exact ⟨_, _, int_of t1 e1, int_of t2 e2, p.val ok (.int _)⟩
  · exact p.elim).imp fun vs H Q ⟨v, u, e, i, j, h1, h2, q⟩ => ⟨i, j, by rw [e, h1, h2], q⟩
def intD : D → Mu → Res
  | .int i, μ => .ok (.val (.int i)) μ
  | .bl k, μ => .ok (.val (.int (if k then 1 else 0))) μ
  | _, _ => .bad
theorem c_int : CallD c W (on1 intD) (fun xs H Q => (∃ i, xs = [.int i] ∧ Q (.int i) H) ∨ ∃ k, xs = [.bl k] ∧ Q (.int (if k then 1 else 0)) H) := (cd1 (r := fun x H Q => (∃ i, x = .int i ∧ Q (.int i) H) ∨ ∃ k, x = .bl k ∧ Q (.int (if k then 1 else 0)) H) fun ρ s μ σ H x v d Q ok t e p => by
  unfold intD at p
  split at p
  · exact .inl ⟨_, int_of t e, p.val ok (.int _)⟩
  · exact .inr ⟨_, bl_of t e, p.val ok (.int _)⟩
  · exact p.elim).imp fun vs H Q ⟨v, e, h⟩ => h.elim (fun ⟨i, h, q⟩ => .inl ⟨i, by rw [e, h], q⟩) fun ⟨i, h, q⟩ => .inr ⟨i, by rw [e, h], q⟩
def strD : D → Mu → Res
  | .int i, μ => if i.natAbs.log2 < 1920 then .ok (.val (.str (toString i))) μ else .bad
  | .str a, μ => .ok (.val (.str a)) μ
  | _, _ => .bad
theorem c_str : CallD c W (on1 strD) (fun xs H Q => (∃ i, xs = [.int i] ∧ i.natAbs.log2 < 1920 ∧ Q (.str (toString i)) H) ∨ ∃ a, xs = [.str a] ∧ Q (.str a) H) := (cd1 (r := fun x H Q => (∃ i, x = .int i ∧ i.natAbs.log2 < 1920 ∧ Q (.str (toString i)) H) ∨ ∃ k, x = .str k ∧ Q (.str k) H) fun ρ s μ σ H x v d Q ok t e p => by
  unfold strD at p
  split at p
  · split at p
    · rename_i h; exact .inl ⟨_, int_of t e, h, p.val ok (.str _)⟩
    · exact p.elim
  · exact .inr ⟨_, str_of t e, p.val ok (.str _)⟩
  · exact p.elim).imp fun vs H Q ⟨v, e, h⟩ => h.elim (fun ⟨i, h, h2, q⟩ => .inl ⟨i, by rw [e, h], h2, q⟩) fun ⟨i, h, q⟩ => .inr ⟨i, by rw [e, h], q⟩
def boolD : D → Mu → Res
  | .int i, μ => .ok (.val (.bl (i != 0))) μ
  | .bl k, μ => .ok (.val (.bl k)) μ
  | _, _ => .bad
theorem c_bool : CallD c W (on1 boolD) (fun xs H Q => (∃ i, xs = [.int i] ∧ Q (.bl (i != 0)) H) ∨ ∃ k, xs = [.bl k] ∧ Q (.bl k) H) := (cd1 (r := fun x H Q => (∃ i, x = .int i ∧ Q (.bl (i != 0)) H) ∨ ∃ k, x = .bl k ∧ Q (.bl k) H) fun ρ s μ σ H x v d Q ok t e p => by
  unfold boolD at p
  split at p
  · exact .inl ⟨_, int_of t e, p.val ok (.bl _)⟩
  · exact .inr ⟨_, bl_of t e, p.val ok (.bl _)⟩
  · exact p.elim).imp fun vs H Q ⟨v, e, h⟩ => h.elim (fun ⟨i, h, q⟩ => .inl ⟨i, by rw [e, h], q⟩) fun ⟨i, h, q⟩ => .inr ⟨i, by rw [e, h], q⟩
/-! list(x), tuple(x) -/
def listD : D → Mu → Res
  | .lst a, μ => .ok (.newL a) μ
  | .tup a, μ => .ok (.newL a) μ
  | _, _ => .bad
theorem c_list : CallD c W (on1 listD) (fun xs H Q => ∃ p ys, xs = [.ref p] ∧ (SqL c.K H p ys ∨ SqT c.K H p ys) ∧ ∀ l, H l = none → Q (.ref l) (upd H l (.lst ys))) := (cd1 (r := fun x H Q => ∃ p ys, x = .ref p ∧ (SqL c.K H p ys ∨ SqT c.K H p ys) ∧ ∀ l, H l = none → Q (.ref l) (upd H l (.lst ys))) fun ρ s μ σ H x v d Q ok t e p => by
  unfold listD at p
  split at p
  · obtain ⟨a1, vs, rfl, h1, l1, r1⟩ := lst_of ok.g t e
    exact ⟨a1, vs, rfl, .inl (.of h1), p.newL ok r1 l1⟩
  · obtain ⟨a1, vs, rfl, h1, n1, l1, r1⟩ := tup_of t e
    exact ⟨a1, vs, rfl, .inr (.of h1), p.newL ok r1 l1⟩
  · exact p.elim).imp fun vs H Q ⟨v, e, p, ys, h1, h2, q⟩ => ⟨p, ys, by rw [e, h1], h2, q⟩
def tupleD : D → Mu → Res
  | .lst a, μ => .ok (.val (.tup a)) μ
  | .tup a, μ => .ok (.val (.tup a)) μ
  | _, _ => .bad
theorem c_tuple : CallD c W (on1 tupleD) (fun xs H Q => ∃ p ys, xs = [.ref p] ∧ ((SqL c.K H p ys ∧ ∀ l, H l = none → Q (.ref l) (upd H l (.tup ys))) ∨ (SqT c.K H p ys ∧ Q (.ref p) H))) := (cd1 (r := fun x H Q => ∃ p ys, x = .ref p ∧ ((SqL c.K H p ys ∧ ∀ l, H l = none → Q (.ref l) (upd H l (.tup ys))) ∨ (SqT c.K H p ys ∧ Q (.ref p) H))) fun ρ s μ σ H x v d Q ok t e p => by
  unfold tupleD at p
  split at p
  · obtain ⟨a1, vs, rfl, h1, l1, r1⟩ := lst_of ok.g t e
    exact ⟨a1, vs, rfl, .inl ⟨.of h1, p.newT ok r1 l1⟩⟩
  · obtain ⟨a1, vs, rfl, h1, n1, l1, r1⟩ := tup_of t e
    exact ⟨a1, vs, rfl, .inr ⟨.of h1, p.val ok (.tup (hid_some.mpr ⟨n1, h1⟩) l1 r1)⟩⟩
  · exact p.elim).imp fun vs H Q ⟨v, e, p, ys, h1, h2⟩ => ⟨p, ys, by rw [e, h1], h2⟩
/-! sum, all -/
def asInts : List D → Option (List Int)
  | [] => some []
  | .int i :: r => (asInts r).map (i :: ·)
  | _ => none
def asBools : List D → Option (List Bool)
  | [] => some []
  | .bl i :: r => (asBools r).map (i :: ·)
  | _ => none
def asStrs : List D → Option (List Str)
  | [] => some []
  | .str i :: r => (asStrs r).map (i :: ·)
  | _ => none
theorem ints_ok {K : PySem.W.Frag} {H : Hp} : ∀ {ds : List D} {vs : List V} {ns : List Int}, Reps K H ds vs → asInts ds = some ns → vs = ns.map V.int
  | [], _, ns, .nil, e => by cases e; rfl
  | d :: ds, _, ns, .cons r t, e => by
    unfold asInts at e
    split at e
    · rename_i h; cases h
    · rename_i i r' h
      cases h
      cases q : asInts ds with
      | none => rw [q] at e; cases e
      | some ms =>
        rw [q] at e
        have e : i :: ms = ns := by simpa using e
        subst e
        cases r
        rw [ints_ok t q]; rfl
    · cases e
theorem bools_ok {K : PySem.W.Frag} {H : Hp} : ∀ {ds : List D} {vs : List V} {ns : List Bool}, Reps K H ds vs → asBools ds = some ns → vs = ns.map V.bl
  | [], _, ns, .nil, e => by cases e; rfl
  | d :: ds, _, ns, .cons r t, e => by
    unfold asBools at e
    split at e
    · rename_i h; cases h
    · rename_i i r' h
      cases h
      cases q : asBools ds with
      | none => rw [q] at e; cases e
      | some ms =>
        rw [q] at e
        have e : i :: ms = ns := by simpa using e
        subst e
        cases r
        rw [bools_ok t q]; rfl
    · cases e
theorem strs_ok {K : PySem.W.Frag} {H : Hp} : ∀ {ds : List D} {vs : List V} {ns : List Str}, Reps K H ds vs → asStrs ds = some ns → vs = ns.map V.str
  | [], _, ns, .nil, e => by cases e; rfl
  | d :: ds, _, ns, .cons r t, e => by
    unfold asStrs at e
    split at e
    · rename_i h; cases h
    · rename_i i r' h
      cases h
      cases q : asStrs ds with
      | none => rw [q] at e; cases e
      | some ms =>
        rw [q] at e
        have e : i :: ms = ns := by simpa using e
        subst e
        cases r
        rw [strs_ok t q]; rfl
    · cases e
def sumD : D → Mu → Res
  | .lst a, μ => match asInts a with | some ns => .ok (.val (.int ns.sum)) μ | none => .bad
  | _, _ => .bad
theorem c_sum : CallD c W (on1 sumD) (rSum c.K) := (cd1 (r := fun x H Q => ∃ a ns, x = .ref a ∧ SqL c.K H a (ns.map V.int) ∧ Q (.int ns.sum) H) fun ρ s μ σ H x v d Q ok t e p => by
  unfold sumD at p
  split at p
  · split at p
    · rename_i q
      obtain ⟨a1, vs, rfl, h1, l1, r1⟩ := lst_of ok.g t e
      rw [ints_ok r1 q] at h1
      exact ⟨a1, _, rfl, .of h1, p.val ok (.int _)⟩
    · exact p.elim
  · exact p.elim).imp fun vs H Q ⟨v, e, a, ns, h1, h2, q⟩ => ⟨a, ns, by rw [e, h1], h2, q⟩
def allD : D → Mu → Res
  | .lst a, μ => match asBools a with | some ns => .ok (.val (.bl (ns.all id))) μ | none => .bad
  | _, _ => .bad
theorem c_all : CallD c W (on1 allD) (rAll c.K) := (cd1 (r := fun x H Q => ∃ a ns, x = .ref a ∧ SqL c.K H a (ns.map V.bl) ∧ Q (.bl (ns.all id)) H) fun ρ s μ σ H x v d Q ok t e p => by
  unfold allD at p
  split at p
  · split at p
    · rename_i q
      obtain ⟨a1, vs, rfl, h1, l1, r1⟩ := lst_of ok.g t e
      rw [bools_ok r1 q] at h1
      exact ⟨a1, _, rfl, .of h1, p.val ok (.bl _)⟩
    · exact p.elim
  · exact p.elim).imp fun vs H Q ⟨v, e, a, ns, h1, h2, q⟩ => ⟨a, ns, by rw [e, h1], h2, q⟩
end
end Dl

namespace Dl
open PySem PySem.Spec PyProof.Rows L2
/-! ### statements -/
def sSeq (f g : SF) : SF := fun s μ => (f s μ).bind g
def sPass : SF := fun s μ => .nx s μ
def sBreak : SF := fun s μ => .bk s μ
def sCont : SF := fun s μ => .ct s μ
def sExpr (f : EF) : SF := fun s μ => (f s μ).bindS s fun _ μ1 => .nx s μ1
def sRet (f : EF) : SF := fun s μ => (f s μ).bindS s fun r μ1 => .rt r μ1
def sRetN : SF := fun _ μ => .rt (.val .non) μ
def sIf (t : TF) (f g : SF) : SF := fun s μ => (t s μ).bindS s fun b μ1 => if b = true then f s μ1 else g s μ1
def sSet (i : Nat) (f : EF) : SF := fun s μ => (f s μ).bindS s fun r μ1 => .nx (s.set i (some (norm r))) μ1
/-- a new list or dict becomes an object of the store -/
def sNew (i : Nat) (f : EF) : SF := fun s μ => (f s μ).bindS s fun r μ1 => match r with
  | .newL xs => .nx (s.set i (some (.obj μ1.length))) (μ1 ++ [.lst xs])
  | .newD xs => .nx (s.set i (some (.obj μ1.length))) (μ1 ++ [.dct xs])
  | _ => .bad
section
variable {c : Cc} {W : WX} {X : Cx} {st : Stmt} {rest a b : List Stmt} {f g : SF} {e : Expr} {fe : EF} {ta : TF} {pos : Pos}
theorem tS_bind {fa : SF} {g : SF} {D : Ends} {σ : St} {H : Hp} (q : tS c W (fun s μ => (fa s μ).bind g) D σ H) : tS c W fa { D with nx := tS c W g D } σ H := by
  obtain ⟨ρ, s, μ, ok, p⟩ := q
  refine ⟨ρ, s, μ, ok, ?_⟩
  dsimp only at p
  cases e : fa s μ with
  | nx s1 μ1 => rw [e] at p; exact fun σ' H' ρ' st ok' => ⟨ρ', s1, μ1, ok', PostS.from st p⟩
  | rt r μ1 => rw [e] at p; exact p
  | bk s1 μ1 => rw [e] at p; exact p
  | ct s1 μ1 => rw [e] at p; exact p
  | exc C s1 μ1 => rw [e] at p; exact p
  | bad => rw [e] at p; exact p
theorem dss_nil : PSs X [] (tS c W sPass) := pss_nil.imp fun D σ H ⟨ρ, s, μ, ok, p⟩ => p σ H ρ .refl ok
theorem dss_cons (h1 : PS X st (tS c W f)) (h2 : PSs X rest (tS c W g)) : PSs X (st :: rest) (tS c W (sSeq f g)) := (pss_cons h1 h2).imp fun D σ H q => tS_bind q
theorem dss_one (h1 : PS X st (tS c W f)) : PSs X [st] (tS c W f) := pss_one h1
theorem ds_pass : PS X (.Pass pos) (tS c W sPass) := ps_pass.imp fun D σ H ⟨ρ, s, μ, ok, p⟩ => p σ H ρ .refl ok
theorem ds_break : PS X (.Break pos) (tS c W sBreak) := ps_break.imp fun D σ H ⟨ρ, s, μ, ok, p⟩ => p σ H ρ .refl ok
theorem ds_cont : PS X (.Continue pos) (tS c W sCont) := ps_continue.imp fun D σ H ⟨ρ, s, μ, ok, p⟩ => p σ H ρ .refl ok
/-- an expression's result goes on into a statement -/
theorem tD_bindS {fa : EF} {g : Sl → R → Mu → SRes} {k : V → St → Hp → Prop} {D : Ends}
    (h : ∀ ρ s μ σ H r v, RepR c ρ s μ σ H r v → PostS c W ρ H D (g s r μ) → k v σ H) (σ : St) (H : Hp)
    (q : tS c W (fun s μ => (fa s μ).bindS s (g s)) D σ H) : tD c W fa σ H fun x H1 => k x σ H1 := by
  obtain ⟨ρ, s, μ, ok, p⟩ := q
  refine ⟨ρ, s, μ, ok, ?_⟩
  dsimp only at p
  cases e : fa s μ with
  | ok r μ1 => rw [e] at p; exact fun v H' ρ' st rep => h _ _ _ _ _ _ _ rep (PostS.from st.weak p)
  | exc C μ1 => rw [e] at p; exact fun H' ρ' st ok' => p σ H' ρ' st ok'
  | bad => rw [e] at p; exact p
theorem tD_bindS0 {fa : EF} {g : Sl → R → Mu → SRes} {k : V → St → Hp → Prop} {D : Ends}
    (h : ∀ ρ0 H0 ρ s μ σ H r v, StepX ρ0 H0 (xo r v) ρ H → RepR c ρ s μ σ H r v → PostS c W ρ0 H0 D (g s r μ) → k v σ H) (σ : St) (H : Hp)
    (q : tS c W (fun s μ => (fa s μ).bindS s (g s)) D σ H) : tD c W fa σ H fun x H1 => k x σ H1 := by
  obtain ⟨ρ, s, μ, ok, p⟩ := q
  refine ⟨ρ, s, μ, ok, ?_⟩
  dsimp only at p
  cases e : fa s μ with
  | ok r μ1 => rw [e] at p; exact fun v H' ρ' st rep => h _ _ _ _ _ _ _ _ _ st rep p
  | exc C μ1 => rw [e] at p; exact fun H' ρ' st ok' => p σ H' ρ' st ok'
  | bad => rw [e] at p; exact p
theorem tT_bindS {fa : TF} {g : Sl → Bool → Mu → SRes} {k : Bool → St → Hp → Prop} {D : Ends}
    (h : ∀ ρ s μ σ H r, Ok c ρ [] s μ σ H → PostS c W ρ H D (g s r μ) → k r σ H) (σ : St) (H : Hp)
    (q : tS c W (fun s μ => (fa s μ).bindS s (g s)) D σ H) : tT c W fa σ H fun x H1 => k x σ H1 := by
  obtain ⟨ρ, s, μ, ok, p⟩ := q
  refine ⟨ρ, s, μ, ok, ?_⟩
  dsimp only at p
  cases e : fa s μ with
  | ok r μ1 => rw [e] at p; exact fun H' ρ' st rep => h _ _ _ _ _ _ rep (PostS.from st p)
  | exc C μ1 => rw [e] at p; exact fun H' ρ' st ok' => p σ H' ρ' st ok'
  | bad => rw [e] at p; exact p
theorem ds_expr (he : PE X e (tD c W fe)) (hs : swapsWith e none pos.line X.env = pure false := by rfl) : PS X (.Expr e pos) (tS c W (sExpr fe)) := (ps_expr he hs).imp fun D σ H q =>
  tD_bindS (g := fun s _ μ1 => .nx s μ1) (k := fun x σ H1 => D.nx σ H1) (fun ρ s μ σ H r v rep p => p σ H ρ .refl rep.ok) σ H q
theorem ds_ret (he : PE X e (tD c W fe)) : PS X (.Return (some e) pos) (tS c W (sRet fe)) := (ps_ret he).imp fun D σ H q =>
  tD_bindS0 (g := fun s r μ1 => .rt r μ1) (k := fun x σ H1 => D.rt x H1) (fun _ _ ρ s μ σ H r v st rep p => p v H ρ s σ st rep) σ H q
theorem ds_retN : PS X (.Return none pos) (tS c W sRetN) := ps_retN.imp fun D σ H ⟨ρ, s, μ, ok, p⟩ => p .non H ρ s σ .refl ⟨.non, ok⟩
theorem ds_if {t : Expr} (ht : PT X t (tT c W ta)) (ha : PSs X a (tS c W f)) (hb : PSs X b (tS c W g)) : PS X (.If t a b pos) (tS c W (sIf ta f g)) := (ps_if ht ha hb).imp fun D σ H q =>
  tT_bindS (g := fun s b μ1 => if b = true then f s μ1 else g s μ1) (k := fun b σ H1 => if b = true then tS c W f D σ H1 else tS c W g D σ H1) (fun ρ s μ σ H b ok p => by
    cases b with
    | true => exact ⟨ρ, s, μ, ok, p⟩
    | false => exact ⟨ρ, s, μ, ok, p⟩) σ H q
theorem Ok.store {ρ x : List Addr} {s : Sl} {μ : Mu} {σ : St} {H : Hp} (k : Ok c ρ x s μ σ H) {r : R} {v : V} (t : Tmp c.K ρ (hid H (x ++ ρ)) r v) (i : Nat) : Ok c ρ x (s.set i (some r)) μ (σ.set i (some v)) H :=
  ⟨k.g, k.sl.set t i, k.dom, k.new, k.le⟩
theorem Ok.unstore {ρ x : List Addr} {s : Sl} {μ : Mu} {σ : St} {H : Hp} (k : Ok c ρ x s μ σ H) (i : Nat) (v : Option V) : Ok c ρ x (s.set i none) μ (σ.set i v) H :=
  ⟨k.g, k.sl.unset i, k.dom, k.new, k.le⟩
theorem ds_setG {i : Nat} {st : Stmt} (h : PS X st (tAsg (tD c W fe) (gName i))) : PS X st (tS c W (sSet i fe)) := h.imp fun D σ H q =>
  tD_bindS (g := fun s r μ1 => .nx (s.set i (some (norm r))) μ1) (k := fun x σ H1 => D.nx (σ.set i (some x)) H1) (fun ρ s μ σ H r v rep p => p _ H ρ .refl (rep.ok.store (by simpa using rep.tmp.norm) i)) σ H q
theorem ds_set {i : Nat} {x : Str} {p' : Pos} (hN : X.N.Nodup) (hi : X.N[i]? = some x) (hx : Loc X.env.scope x) (he : PE X e (tD c W fe)) (hs : swapsWith e (some (.Name x p')) pos.line X.env = pure false := by rfl)
    (hf : X.fn x = true ∨ X.env.scope.names.lookup x = some .local := by first | exact .inl rfl | exact .inr rfl | assumption) : PS X (.Assign [.Name x p'] e pos) (tS c W (sSet i fe)) := ds_setG (ps_set hN hi hx he hs hf)
/-- a new one joins the store -/
theorem Ok.join {ρ : List Addr} {s : Sl} {μ : Mu} {σ : St} {H : Hp} {p : Addr} {m : MO} (k : Ok c ρ [p] s μ σ H) (hp : p ∉ ρ) (hl : H p ≠ none) (hB : c.B p = none) (hm : MOk c.K (hid H (ρ ++ [p])) H p m) : Ok c (ρ ++ [p]) [] s (μ ++ [m]) σ H := by
  have kp : Keep (hid H ([p] ++ ρ)) (hid H ([] ++ (ρ ++ [p]))) := .sub fun a h => by simp at h ⊢; exact h.symm
  have ex : Ext ρ (ρ ++ [p]) := ⟨[p], rfl⟩
  refine ⟨⟨by simp [k.g.len], ?_, fun a h => ?_, fun i a m' h1 h2 => ?_, k.g.tabs⟩, k.sl.keep ex kp, k.dom, fun i a h1 h2 => ?_, by have := k.le; simp; omega⟩
  · rw [List.nodup_append]
    refine ⟨k.g.nd, by simp, fun a h1 b h2 e => ?_⟩
    have : b = p := by simpa using h2
    subst this; subst e; exact hp h1
  · rcases List.mem_append.mp h with h | h
    · exact k.g.live a h
    · have : a = p := by simpa using h
      subst this; exact hl
  · by_cases hi : i < ρ.length
    · rw [List.getElem?_append_left hi] at h1
      rw [List.getElem?_append_left (by rw [← k.g.len]; exact hi)] at h2
      exact (k.g.objs i a m' h1 h2).keep kp rfl
    · rw [List.getElem?_append_right (by omega)] at h1
      rw [List.getElem?_append_right (by rw [← k.g.len]; omega)] at h2
      rw [k.g.len] at h1
      cases hj : i - μ.length with
      | zero =>
        rw [hj] at h1 h2
        have e1 : p = a := by simpa using h1
        have e2 : m = m' := by simpa using h2
        subst e1; subst e2
        simpa using hm
      | succ j => rw [hj] at h1; simp at h1
  · by_cases hi : i < ρ.length
    · rw [List.getElem?_append_left hi] at h2; exact k.new i a h1 h2
    · rw [List.getElem?_append_right (by omega)] at h2
      cases hj : i - ρ.length with
      | zero =>
        rw [hj] at h2
        have e1 : p = a := by simpa using h2
        subst e1; exact hB
      | succ j => rw [hj] at h2; simp at h2
theorem StepX.join {ρ0 ρ : List Addr} {H0 H : Hp} {p : Addr} (st : StepX ρ0 H0 [p] ρ H) : StepX ρ0 H0 [] (ρ ++ [p]) H :=
  ⟨st.ext.trans ⟨[p], rfl⟩, st.ex.trans (.sub fun a h => by simp at h ⊢; exact h.symm), st.grow⟩
theorem ds_newG {i : Nat} {st : Stmt} (h : PS X st (tAsg (tD c W fe) (gName i))) : PS X st (tS c W (sNew i fe)) := h.imp fun D σ H q =>
  tD_bindS0 (g := fun s r μ1 => match r with
    | .newL xs => .nx (s.set i (some (.obj μ1.length))) (μ1 ++ [.lst xs])
    | .newD xs => .nx (s.set i (some (.obj μ1.length))) (μ1 ++ [.dct xs])
    | _ => .bad) (k := fun x σ H1 => D.nx (σ.set i (some x)) H1) (fun ρ0 H0 ρ s μ σ H r v st rep p => by
    split at p
    · obtain ⟨a, vs, rfl, h1, h2, h3, h4, h5, h6⟩ := rep
      have kp : Keep (hid H (a :: ρ)) (hid H (ρ ++ [a])) := .sub fun b hb => by simp at hb ⊢; exact hb.symm
      have k := h6.join h2 (by rw [h1]; simp) h3 (m := .lst _) ⟨vs, h1, h4, h5.keep kp⟩
      exact p _ H _ (StepX.join st) (k.store (r := .obj μ.length) (v := .ref a) ⟨a, by have := h6.g.len; rw [← this, List.getElem?_append_right (Nat.le_refl _)]; simp, rfl⟩ i)
    · obtain ⟨a, vs, rfl, h1, h2, h3, h5, h6⟩ := rep
      have kp : Keep (hid H (a :: ρ)) (hid H (ρ ++ [a])) := .sub fun b hb => by simp at hb ⊢; exact hb.symm
      have k := h6.join h2 (by rw [h1]; simp) h3 (m := .dct _) ⟨vs, h1, h5.keep kp⟩
      exact p _ H _ (StepX.join st) (k.store (r := .obj μ.length) (v := .ref a) ⟨a, by have := h6.g.len; rw [← this, List.getElem?_append_right (Nat.le_refl _)]; simp, rfl⟩ i)
    · exact p.elim) σ H q
theorem ds_new {i : Nat} {x : Str} {p' : Pos} (hN : X.N.Nodup) (hi : X.N[i]? = some x) (hx : Loc X.env.scope x) (he : PE X e (tD c W fe)) (hs : swapsWith e (some (.Name x p')) pos.line X.env = pure false := by rfl)
    (hf : X.fn x = true ∨ X.env.scope.names.lookup x = some .local := by first | exact .inl rfl | exact .inr rfl | assumption) : PS X (.Assign [.Name x p'] e pos) (tS c W (sNew i fe)) := ds_newG (ps_set hN hi hx he hs hf)
end
/-! ### a def: what it hands back -/
/-- what a result leans on behind the def's end -/
def RetOk (K : PySem.W.Frag) (T : List (Addr × Str)) (B : Hp) (ρ : List Addr) (μ : Mu) (H : Hp) : R → V → Prop
  | .newL xs, v => ∃ p vs, v = .ref p ∧ H p = some (.lst vs) ∧ p ∉ ρ ∧ B p = none ∧ vs.length ≤ sizeLine ∧ Reps K (hid H (p :: ρ)) xs vs ∧ OkG K T ρ [p] μ H
  | .newD kvs, v => ∃ p vs, v = .ref p ∧ H p = some (.dK vs) ∧ p ∉ ρ ∧ B p = none ∧ RepK K (hid H (p :: ρ)) kvs vs ∧ OkG K T ρ [p] μ H
  | .val d, v => Rep K (hid H ρ) d v ∧ OkG K T ρ [] μ H
  | .obj i, v => (∃ a, ρ[i]? = some a ∧ v = .ref a) ∧ OkG K T ρ [] μ H
def PostF (K : PySem.W.Frag) (T : List (Addr × Str)) (ρ : List Addr) (H : Hp) (Q : VK) (E : XK) : Res → Prop
  | .ok r μ' => ∀ v H', StepX ρ H (xo r v) ρ H' → RetOk K T H ρ μ' H' r v → Q v H'
  | .exc C μ' => ∀ H', StepX ρ H [] ρ H' → OkG K T ρ [] μ' H' → E (.ref C) none H'
  | .bad => False
/-- the promise of a def that is the function F on data -/
def spF (K : PySem.W.Frag) (T : List (Addr × Str)) (n : Nat) (F : FF) : Sp := fun vs H Q E => ∃ ρ rs μ, rs.length = n ∧ Tmps K ρ (hid H ρ) rs vs ∧ OkG K T ρ [] μ H ∧ PostF K T ρ H Q E (F rs μ)
/-- the def's end: its own objects go; a list or dict of its own that it hands back is new -/
def finR (n : Nat) (r : R) (μ : Mu) : Res :=
  match r with
  | .obj i => if i < n then .ok r (μ.take n) else match μ[i]? with
    | some (.lst xs) => .ok (.newL xs) (μ.take n)
    | some (.dct xs) => .ok (.newD xs) (μ.take n)
    | _ => .bad
  | r => .ok r (μ.take n)
def fin (n : Nat) : SRes → Res
  | .nx _ μ => finR n (.val .non) μ
  | .rt r μ => finR n r μ
  | .exc C _ μ => .exc C (μ.take n)
  | _ => .bad
/-- a def by its body: N how many slots there are -/
def defF (N : Nat) (body : SF) : FF := fun rs μ => fin μ.length (body ((rs.map fun r => some (norm r)) ++ List.replicate (N - rs.length) none) μ)
section
variable {K : PySem.W.Frag} {T : List (Addr × Str)} {ρ t : List Addr} {H : Hp} {μ : Mu}
/-- the store without what came behind -/
theorem OkG.cut {x x' : List Addr} (g : OkG K T (ρ ++ t) x μ H) (hx : ∀ a, a ∈ x' → a ∈ x ∨ a ∈ t) : OkG K T ρ x' (μ.take ρ.length) H := by
  have hl : ρ.length ≤ μ.length := by have := g.len; rw [List.length_append] at this; omega
  refine ⟨by rw [List.length_take]; omega, (List.nodup_append.mp g.nd).1, fun a h => g.live a (List.mem_append_left _ h), fun i a m h1 h2 => ?_, g.tabs⟩
  have hi : i < ρ.length := (List.getElem?_eq_some_iff.mp h1).1
  have h2' : μ[i]? = some m := by
    rw [List.getElem?_take] at h2
    by_cases z : i < ρ.length
    · rw [if_pos z] at h2; exact h2
    · exact absurd hi z
  refine (g.objs i a m (by rw [List.getElem?_append_left hi]; exact h1) h2').keep (.sub fun a h => ?_) rfl
  rcases List.mem_append.mp h with h | h
  · rcases hx a h with h | h
    · exact List.mem_append_left _ h
    · exact List.mem_append_right _ (List.mem_append_right _ h)
  · exact List.mem_append_right _ (List.mem_append_left _ h)
end
section
variable {K : PySem.W.Frag} {T : List (Addr × Str)} {ρ : List Addr} {H : Hp} {μ : Mu}
theorem Tmps.length {Hh : Hp} : ∀ {rs : List R} {vs : List V}, Tmps K ρ Hh rs vs → vs.length = rs.length
  | _, _, .nil => rfl
  | _, _, .cons _ t => by rw [List.length_cons, List.length_cons, Tmps.length t]
theorem finR_ok {c : Cc} {Q : VK} {E : XK} {r : R} {v : V} {ρ' : List Addr} {s' : Sl} {σ' : St} {H' : Hp} {μ' : Mu} (hK : c.K = K) (hT : c.T = T) (hB : c.B = H) (hn : c.n = ρ.length) (p : PostF K T ρ H Q E (finR ρ.length r μ')) (st : StepX ρ H (xo r v) ρ' H') (rep : RepR c ρ' s' μ' σ' H' r v) : Q v H' := by
  subst hK hT
  unfold finR at p
  · obtain ⟨t, rfl⟩ := st.ext
    have sub : KeepX (hid H' (xo r v ++ (ρ ++ t))) (hid H' (xo r v ++ ρ)) := .sub fun a h => by
      rcases List.mem_append.mp h with h | h
      · exact List.mem_append_left _ h
      · exact List.mem_append_right _ (List.mem_append_left _ h)
    have st1 : StepX ρ H (xo r v) ρ H' := ⟨.refl, st.ex.trans sub, st.grow⟩
    have plain : Keep (hid H' (ρ ++ t)) (hid H' ρ) := .sub fun a h => List.mem_append_left _ h
    cases r with
    | val d =>
      obtain ⟨h1, ok⟩ := rep
      exact p v H' st1 ⟨h1.keep plain, ok.g.cut (fun a h => by simp at h)⟩
    | newL xs =>
      obtain ⟨a, vs, rfl, h1, h2, h3, h4, h5, ok⟩ := rep
      rw [List.mem_append, not_or] at h2
      refine p (.ref a) H' st1 ⟨a, vs, rfl, h1, h2.1, by rw [← hB]; exact h3, h4, h5.keep (.sub fun b h => ?_), ok.g.cut (fun b h => .inl h)⟩
      rcases List.mem_cons.mp h with h | h
      · exact List.mem_cons.mpr (.inl h)
      · exact List.mem_cons_of_mem _ (List.mem_append_left _ h)
    | newD xs =>
      obtain ⟨a, vs, rfl, h1, h2, h3, h5, ok⟩ := rep
      rw [List.mem_append, not_or] at h2
      refine p (.ref a) H' st1 ⟨a, vs, rfl, h1, h2.1, by rw [← hB]; exact h3, h5.keep (.sub fun b h => ?_), ok.g.cut (fun b h => .inl h)⟩
      rcases List.mem_cons.mp h with h | h
      · exact List.mem_cons.mpr (.inl h)
      · exact List.mem_cons_of_mem _ (List.mem_append_left _ h)
    | obj i =>
      obtain ⟨⟨a, h1, rfl⟩, ok⟩ := rep
      dsimp only at p
      by_cases hi : i < ρ.length
      · rw [if_pos hi] at p
        rw [List.getElem?_append_left hi] at h1
        exact p (.ref a) H' st1 ⟨⟨a, h1, rfl⟩, ok.g.cut (fun a h => by simp at h)⟩
      · rw [if_neg hi] at p
        obtain ⟨m, h2, h3⟩ := mu_of ok.g h1
        rw [h2] at p
        have hB' : H a = none := by rw [← hB]; exact ok.new i a (by omega) h1
        have at' : a ∈ t := by
          rw [List.getElem?_append_right (by omega)] at h1
          exact List.mem_of_getElem? h1
        have ha : a ∉ ρ := fun z => (List.nodup_append.mp ok.g.nd).2.2 a z a at' rfl
        have sub2 : Keep (hid H' ([] ++ (ρ ++ t))) (hid H' (a :: ρ)) := .sub fun b h => by
          rcases List.mem_cons.mp h with h | h
          · subst h; simp [at']
          · simp [h]
        have st2 : StepX ρ H [a] ρ H' := ⟨.refl, st.ex.trans (.sub fun b h => by
          simp at h
          rcases h with h | h
          · subst h; simp [xo, at']
          · simp [xo, h]), st.grow⟩
        cases m with
        | lst xs =>
          obtain ⟨vs, q1, q2, q3⟩ := h3
          exact p (.ref a) H' st2 ⟨a, vs, rfl, q1, ha, hB', q2, q3.keep sub2, ok.g.cut (fun b h => .inr (by simp at h; subst h; exact at'))⟩
        | dct xs =>
          obtain ⟨vs, q1, q3⟩ := h3
          exact p (.ref a) H' st2 ⟨a, vs, rfl, q1, ha, hB', q3.keep sub2, ok.g.cut (fun b h => .inr (by simp at h; subst h; exact at'))⟩
        | ins _ _ => exact p.elim
        | gone => exact p.elim
theorem start_sl {Hh : Hp} : ∀ {rs : List R} {vs : List V} (m : Nat), Tmps K ρ Hh rs vs → SlK K ρ Hh ((rs.map fun r => some (norm r)) ++ List.replicate m none) (vs.map some ++ List.replicate m none)
  | _, _, 0, .nil => .nil
  | _, _, m + 1, .nil => by
    rw [List.replicate_succ, List.replicate_succ]
    exact .non (start_sl (rs := []) (vs := []) m .nil)
  | _, _, m, .cons t ts => .cons t.norm (start_sl m ts)
end
section
variable {P : Program} {w : World} {K : PySem.W.Frag} {mg : Str → Option Value} {base : Heap} {T : List (Addr × Str)}
/-- a def keeps the promise of its body's function -/
theorem fn_ok {x qual : Str} {st : Stmt} {f : Addr} {fd : FuncData} {N ps : List Str} {k : Nat} {body : SF} (F : Fun K x qual st f fd) (S : FnScope N ps (defScope st))
    (h : ∀ (cdv : Value) (A : Around) (outer : List Env) (s : Shared) (H : Hp) (E : XK) (c : Cc), c.K = K → c.T = T → Room k (A.deeper (envOfC qual (defScope st) s.heap.objs.size f cdv)) →
      PSs (cxOf (L2N.CX P w) P w K mg base N qual (defScope st) f cdv A outer s H E) (defBody st) (tS c (fun cls d _ H => E cls d H) body)) :
    FnOk P w K mg base (L2N.CX P w) (k + 1) f fd ps (spF K T ps.length (defF N.length body)) := by
  obtain ⟨_, _, _, _, _, _, cdv, _, _, rfl, lk, hcd⟩ := F.ex
  refine fn_of lk hcd S (fun vs H Q E ⟨ρ, rs, μ, hn, tm, _⟩ => by rw [tm.length, hn]) (fun A outer s H vs Q E hr ⟨ρ, rs, μ, hn, tm, g, p⟩ => ?_)
  refine ⟨_, h cdv A outer s H E ⟨K, T, H, ρ.length⟩ rfl rfl hr, ρ, (rs.map fun r => some (norm r)) ++ List.replicate (N.length - rs.length) none, μ, ⟨g, ?_, fun a h => h, fun i a h1 h2 => ?_, Nat.le_refl _⟩, ?_⟩
  · have e : L2.start N vs = vs.map some ++ List.replicate (N.length - rs.length) none := by unfold L2.start; rw [tm.length]
    rw [e]
    exact start_sl _ (by simpa using tm)
  · exact absurd (List.getElem?_eq_some_iff.mp h2).1 (by show ¬ i < ρ.length; have : ρ.length ≤ i := h1; omega)
  · unfold defF at p
    rw [← g.len] at p
    cases e : body ((rs.map fun r => some (norm r)) ++ List.replicate (N.length - rs.length) none) μ with
    | nx s1 μ1 =>
      rw [e] at p
      intro σ' H' ρ' st ok'
      exact finR_ok (c := ⟨K, T, H, ρ.length⟩) (r := .val .non) rfl rfl rfl rfl p st ⟨.non, ok'⟩
    | rt r μ1 =>
      rw [e] at p
      intro v H' ρ' s' σ' st rep
      exact finR_ok (c := ⟨K, T, H, ρ.length⟩) rfl rfl rfl rfl p st rep
    | exc C s1 μ1 =>
      rw [e] at p
      intro σ' H' ρ' st ok'
      obtain ⟨t, rfl⟩ := st.ext
      exact p H' ⟨.refl, st.ex.trans (.sub fun a h => by simp at h ⊢; exact .inl h), st.grow⟩ (ok'.g.cut (fun a h => by simp at h))
    | bk s1 μ1 => rw [e] at p; exact p.elim
    | ct s1 μ1 => rw [e] at p; exact p.elim
    | bad => rw [e] at p; exact p.elim
/-- the same, the function told otherwise -/
theorem fn_as {f : Addr} {fd : FuncData} {k n : Nat} {ps : List Str} {F G : FF} {CX : CXT} (h : FnOk P w K mg base CX k f fd ps (spF K T n F)) (e : ∀ rs μ, rs.length = n → G rs μ ≠ .bad → F rs μ = G rs μ) : FnOk P w K mg base CX k f fd ps (spF K T n G) :=
  h.imp fun vs H Q E ⟨ρ, rs, μ, hn, tm, g, p⟩ => ⟨ρ, rs, μ, hn, tm, g, by
    by_cases z : G rs μ = .bad
    · rw [z] at p; exact p.elim
    · rw [e rs μ hn z]; exact p⟩
end
/-! ### a def is called -/
def eFn (n : Nat) (F : FF) (fs : AF) : EF := fun s μ => (fs s μ).bind fun rs μ1 => if rs.length = n then F rs μ1 else .bad
section
variable {c : Cc} {W : WX} {X : Cx} {e : Expr} {es : List Expr} {fs : AF} {pos p : Pos} {x : Str} {k n : Nat} {f : Addr} {fd : FuncData} {ps : List Str} {G : FF}
theorem Ok.behind {ρ : List Addr} {s : Sl} {μ μ' : Mu} {σ : St} {H H' : Hp} {x : List Addr} (k : Ok c ρ [] s μ σ H) (st : StepX ρ H x ρ H') (g : OkG c.K c.T ρ x μ' H') : Ok c ρ x s μ' σ H' :=
  ⟨g, k.sl.keep .refl (by simpa using st.kx), fun a h => st.grow a (k.dom a h), k.new, k.le⟩
/-- from a callee's end to the caller -/
theorem post_call {ρ : List Addr} {s : Sl} {μ : Mu} {σ : St} {H : Hp} {Q : VK} (ok : Ok c ρ [] s μ σ H) : ∀ {r : Res}, Post c W ρ H s σ Q r → PostF c.K c.T ρ H Q (WE W σ) r
  | .bad, q => q
  | .exc C μ', q => fun H' st g => q H' ρ st (ok.behind st g)
  | .ok (.val d) μ', q => fun v H' st ⟨h, g⟩ => q v H' ρ st ⟨h, ok.behind st g⟩
  | .ok (.obj i) μ', q => fun v H' st ⟨h, g⟩ => q v H' ρ st ⟨h, ok.behind st g⟩
  | .ok (.newL xs) μ', q => fun v H' st ⟨a, vs, e, h1, h2, h3, h4, h5, g⟩ => by
    subst e
    refine q (.ref a) H' ρ st ⟨a, vs, rfl, h1, h2, ?_, h4, h5, ok.behind (x := [a]) st g⟩
    cases e : c.B a with
    | none => rfl
    | some o => exact absurd h3 (ok.dom a (by rw [e]; simp))
  | .ok (.newD xs) μ', q => fun v H' st ⟨a, vs, e, h1, h2, h3, h5, g⟩ => by
    subst e
    refine q (.ref a) H' ρ st ⟨a, vs, rfl, h1, h2, ?_, h5, ok.behind (x := [a]) st g⟩
    cases e : c.B a with
    | none => rfl
    | some o => exact absurd h3 (ok.dom a (by rw [e]; simp))
theorem fn_imp (σ : St) (H : Hp) (Q : VK) (q : tD c W (eFn n G fs) σ H Q) : tCallS (spF c.K c.T n G) (WE W) (tA c W fs) σ H Q :=
  tA_bind (g := fun _ rs μ1 => if rs.length = n then G rs μ1 else .bad) (k := fun σ vs H1 Q => spF c.K c.T n G vs H1 Q (WE W σ)) (fun ρ s μ σ H rs vs Q tm ok p => by
    split at p
    · rename_i h
      exact ⟨ρ, rs, μ, h, tm, ok.g, post_call ok p⟩
    · exact p.elim) σ H Q q
theorem de_fn (F : FnOk X.prog X.w X.K X.mg X.base (L2N.CX X.prog X.w) k f fd ps (spF X.K c.T n G)) (hK : c.K = X.K) (hr : Room k X.A) (hg : Gl X x) (hm : X.mg x = some (.ref f)) (hk : PySem.W.keepIn X.K (.ref f) = true) (hb : Binds X.K fd ps []) (tk : L2N.Takes X W)
    (ha : PA X (e :: es) (tA c W fs)) (hdb : (x == ("__debug__" : Str)) = false := by decide) (he : starEach (e :: es) X.env = (false, eval e X.env) :: starEach es X.env := by rfl) (hpl : (backTo pos (starEach es X.env)).any (·.1) = false := by rfl) :
    PE X (.Call (.Name x p) (e :: es) [] pos) (tD c W (eFn n G fs)) := (pe_callS F hr hg hm hk hb (fun σ => L2N.passAt tk σ) ha hdb he hpl).imp (hK ▸ fn_imp)
end
end Dl

namespace Dl
open PySem PySem.Spec PyProof.Rows L2
/-! ### what is walked -/
inductive ResL where
  | ok (ds : List D) (μ : Mu) | exc (C : Addr) (μ : Mu) | bad
abbrev LF := Sl → Mu → ResL
structure SrcOk (c : Cc) (J : It) (ds : List D) (G : List Addr → Hp → Prop) : Prop where
  stay : ∀ ρ H x ρ' H', G ρ H → StepX ρ H x ρ' H' → G ρ' H'
  stop : ∀ ρ H, G ρ H → J.stop ds.length H
  go : ∀ ρ H i, G ρ H → i < ds.length → J.go i H
  yld : ∀ ρ s μ σ H i d x H', Ok c ρ [] s μ σ H → G ρ H → ds[i]? = some d → J.yld i H x H' → StepX ρ H [] ρ H' ∧ Ok c ρ [] s μ σ H' ∧ Rep c.K (hid H' ρ) d x
def tL (c : Cc) (W : WX) (src : LF) : TI := fun σ H R => ∃ ρ s μ, Ok c ρ [] s μ σ H ∧ match src s μ with
  | .ok ds μ' => ∀ J H' ρ' G, StepX ρ H [] ρ' H' → Ok c ρ' [] s μ' σ H' → G ρ' H' → SrcOk c J ds G → R J H'
  | .exc C μ' => ∀ H' ρ', StepX ρ H [] ρ' H' → Ok c ρ' [] s μ' σ H' → W (.ref C) none σ H'
  | .bad => False
theorem _root_.L2.PI.imp {X : Cx} {tg iter : Expr} {t t' : TI} (h : PI X tg iter t) (k : ∀ σ H R, t' σ H R → t σ H R) : PI X tg iter t' := ⟨fun pins s σ H R I q => h.run pins s σ H R I (k σ H R q)⟩
theorem _root_.L2.PTs.imp {X : Cx} {ifs : List Expr} {t t' : TT} (h : PTs X ifs t) (k : ∀ σ H Q, t' σ H Q → t σ H Q) : PTs X ifs t' := ⟨fun pins s σ H Q I q => h.run pins s σ H Q I (k σ H Q q)⟩
def Res.bindL : Res → (R → Mu → ResL) → ResL
  | .ok r μ, g => g r μ
  | .exc C μ, _ => .exc C μ
  | .bad, _ => .bad
theorem bindL_ok {r μ g} : (Res.ok r μ).bindL g = g r μ := rfl
theorem bindL_exc {r μ g} : (Res.exc r μ).bindL g = .exc r μ := rfl
theorem bindL_bad {g} : (Res.bad).bindL g = .bad := rfl
def ResA.bindL : ResA → (List R → Mu → ResL) → ResL
  | .ok r μ, g => g r μ
  | .exc C μ, _ => .exc C μ
  | .bad, _ => .bad
theorem AbindL_ok {r μ g} : (ResA.ok r μ).bindL g = g r μ := rfl
theorem AbindL_exc {r μ g} : (ResA.exc r μ).bindL g = .exc r μ := rfl
theorem AbindL_bad {g} : (ResA.bad).bindL g = .bad := rfl
/-- the items of a list -/
def lL (f : EF) : LF := fun s μ => (f s μ).bindL fun r μ1 => match r with
  | .val (.lst ds) => .ok ds μ1
  | .newL ds => .ok ds μ1
  | _ => .bad
def lT (f : EF) : LF := fun s μ => (f s μ).bindL fun r μ1 => match r with
  | .val (.tup ds) => .ok ds μ1
  | _ => .bad
def rngD (lo : Int) (n : Nat) : List D := (List.range n).map fun i => .int (lo + (i : Nat))
def rgOk (n : Int) : Bool := Nat.ble n.natAbs 4611686018427387903
theorem rgOk_iff {n : Int} (h : rgOk n = true) : -(2 ^ 62) ≤ n ∧ n < 2 ^ 62 := by unfold rgOk at h; rw [Nat.ble_eq] at h; exact ⟨by omega, by omega⟩
def lR1 (f : AF) : LF := fun s μ => (f s μ).bindL fun rs μ1 => match rs with
  | [.val (.int n)] => if rgOk n = true then .ok (rngD 0 n.toNat) μ1 else .bad
  | _ => .bad
def lR2 (f : AF) : LF := fun s μ => (f s μ).bindL fun rs μ1 => match rs with
  | [.val (.int a), .val (.int b)] => if rgOk a = true ∧ rgOk b = true then .ok (rngD a (b - a).toNat) μ1 else .bad
  | _ => .bad
section
variable {c : Cc} {W : WX} {X : Cx} {tg e : Expr} {fe : EF} {fs : AF} {pos p : Pos}
theorem tD_bindL {fa : EF} {g : Sl → R → Mu → ResL} {k : St → V → Hp → (It → Hp → Prop) → Prop}
    (h : ∀ ρ s μ σ H r v R, RepR c ρ s μ σ H r v → (match g s r μ with
      | .ok ds μ' => ∀ J H' ρ' G, StepX ρ H [] ρ' H' → Ok c ρ' [] s μ' σ H' → G ρ' H' → SrcOk c J ds G → R J H'
      | .exc C μ' => ∀ H' ρ', StepX ρ H [] ρ' H' → Ok c ρ' [] s μ' σ H' → W (.ref C) none σ H'
      | .bad => False) → k σ v H R) (σ : St) (H : Hp) (R : It → Hp → Prop)
    (q : tL c W (fun s μ => (fa s μ).bindL (g s)) σ H R) : tD c W fa σ H fun x H1 => k σ x H1 R := by
  obtain ⟨ρ, s, μ, ok, p⟩ := q
  refine ⟨ρ, s, μ, ok, ?_⟩
  dsimp only at p
  cases e : fa s μ with
  | ok r μ1 =>
    rw [e] at p
    intro v H' ρ' st rep
    refine h _ _ _ _ _ _ _ _ rep ?_
    dsimp only [bindL_ok] at p
    cases e2 : g s r μ1 with
    | ok ds μ2 => rw [e2] at p; exact fun J H2 ρ2 G st2 => p J H2 ρ2 G (st.weak.trans st2)
    | exc C μ2 => rw [e2] at p; exact fun H2 ρ2 st2 => p H2 ρ2 (st.weak.trans st2)
    | bad => rw [e2] at p; exact p
  | exc C μ1 => rw [e] at p; exact p
  | bad => rw [e] at p; exact p
theorem tA_bindL {fa : AF} {g : Sl → List R → Mu → ResL} {k : St → List V → Hp → (It → Hp → Prop) → Prop}
    (h : ∀ ρ s μ σ H r v R, Tmps c.K ρ (hid H ρ) r v → Ok c ρ [] s μ σ H → (match g s r μ with
      | .ok ds μ' => ∀ J H' ρ' G, StepX ρ H [] ρ' H' → Ok c ρ' [] s μ' σ H' → G ρ' H' → SrcOk c J ds G → R J H'
      | .exc C μ' => ∀ H' ρ', StepX ρ H [] ρ' H' → Ok c ρ' [] s μ' σ H' → W (.ref C) none σ H'
      | .bad => False) → k σ v H R) (σ : St) (H : Hp) (R : It → Hp → Prop)
    (q : tL c W (fun s μ => (fa s μ).bindL (g s)) σ H R) : tA c W fa σ H fun x H1 => k σ x H1 R := by
  obtain ⟨ρ, s, μ, ok, p⟩ := q
  refine ⟨ρ, s, μ, ok, ?_⟩
  dsimp only at p
  cases e : fa s μ with
  | ok r μ1 =>
    rw [e] at p
    intro v H' ρ' st tm ok'
    refine h _ _ _ _ _ _ _ _ tm ok' ?_
    dsimp only [AbindL_ok] at p
    cases e2 : g s r μ1 with
    | ok ds μ2 => rw [e2] at p; exact fun J H2 ρ2 G st2 => p J H2 ρ2 G (st.weak.trans st2)
    | exc C μ2 => rw [e2] at p; exact fun H2 ρ2 st2 => p H2 ρ2 (st.weak.trans st2)
    | bad => rw [e2] at p; exact p
  | exc C μ1 => rw [e] at p; exact p
  | bad => rw [e] at p; exact p
theorem src_list {a : Addr} {ds : List D} : SrcOk c (Itl c.K a) ds (fun ρ H => ∃ vs, hid H ρ a = some (.lst vs) ∧ Reps c.K (hid H ρ) ds vs) where
  stay := fun ρ H x ρ' H' ⟨vs, h, r⟩ st => ⟨vs, st.weak.keep.lst _ _ h, r.keep st.weak.keep⟩
  stop := fun ρ H ⟨vs, h, r⟩ => ⟨vs, .of (hid_some.mp h).2, by rw [r.length]; exact Nat.le_refl _⟩
  go := fun ρ H i ⟨vs, h, r⟩ hi => by
    obtain ⟨v, h1, h2⟩ := r.get (List.getElem?_eq_getElem hi)
    exact ⟨vs, v, .of (hid_some.mp h).2, h1⟩
  yld := fun ρ s μ σ H i d x H' ok ⟨vs, h, r⟩ hd ⟨e, hx⟩ => by
    subst e
    obtain ⟨v, h1, h2⟩ := r.get hd
    have := hx vs (.of (hid_some.mp h).2)
    rw [h1] at this; cases this
    exact ⟨.refl, ok, h2⟩
theorem src_tup {a : Addr} {ds : List D} : SrcOk c (Itt c.K a) ds (fun ρ H => ∃ vs, hid H ρ a = some (.tup vs) ∧ Reps c.K (hid H ρ) ds vs) where
  stay := fun ρ H x ρ' H' ⟨vs, h, r⟩ st => ⟨vs, st.weak.keep.tup _ _ h, r.keep st.weak.keep⟩
  stop := fun ρ H ⟨vs, h, r⟩ => ⟨vs, .of (hid_some.mp h).2, by rw [r.length]; exact Nat.le_refl _⟩
  go := fun ρ H i ⟨vs, h, r⟩ hi => by
    obtain ⟨v, h1, h2⟩ := r.get (List.getElem?_eq_getElem hi)
    exact ⟨vs, v, .of (hid_some.mp h).2, h1⟩
  yld := fun ρ s μ σ H i d x H' ok ⟨vs, h, r⟩ hd ⟨e, hx⟩ => by
    subst e
    obtain ⟨v, h1, h2⟩ := r.get hd
    have := hx vs (.of (hid_some.mp h).2)
    rw [h1] at this; cases this
    exact ⟨.refl, ok, h2⟩
theorem src_rng {lo : Int} {n : Nat} : SrcOk c (Itr lo n) (rngD lo n) (fun _ _ => True) where
  stay := fun _ _ _ _ _ _ _ => trivial
  stop := fun ρ H _ => by
    show n ≤ (rngD lo n).length
    unfold rngD; simp
  go := fun ρ H i _ hi => by
    show i < n
    unfold rngD at hi; simpa using hi
  yld := fun ρ s μ σ H i d x H' ok _ hd ⟨e, hx⟩ => by
    subst e; subst hx
    unfold rngD at hd
    rw [List.getElem?_map] at hd
    cases q : (List.range n)[i]? with
    | none => rw [q] at hd; cases hd
    | some j =>
      rw [q] at hd
      have hd : D.int (lo + (j : Nat)) = d := Option.some.inj hd
      have : j = i := by
        have := List.getElem?_eq_some_iff.mp q
        obtain ⟨h1, h2⟩ := this
        simpa using h2.symm
      subst this; subst hd
      exact ⟨.refl, ok, .int _⟩
theorem dl_list (hK : c.K = X.K) (he : PE X e (tD c W fe)) : PI X tg e (tL c W (lL fe)) := (pi_list he).imp fun σ H R q =>
  tD_bindL (g := fun s r μ1 => match r with | .val (.lst ds) => .ok ds μ1 | .newL ds => .ok ds μ1 | _ => .bad) (k := fun σ x H1 R => ∃ a, x = .ref a ∧ (∃ xs, SqL X.K H1 a xs) ∧ R (Itl X.K a) H1) (fun ρ s μ σ H r v R rep p => by
    have key : ∀ {ds : List D}, deref μ r = some (.lst ds) → (∀ J H' ρ' G, StepX ρ H [] ρ' H' → Ok c ρ' [] s μ σ H' → G ρ' H' → SrcOk c J ds G → R J H') → (∀ i, r ≠ .obj i) → ∃ a, v = .ref a ∧ (∃ xs, SqL X.K H a xs) ∧ R (Itl X.K a) H := fun {ds} e p no => by
      have ok := rep.ok
      have t := rep.tmp
      have t' : Rep c.K (hid H ρ) (.lst ds) v := by
        cases r with
        | val d => have e : d = .lst ds := by simpa using e
                   subst e; exact t
        | newL xs => have e : xs = ds := by simpa using e
                     subst e; exact t
        | newD xs => simp at e
        | obj i => exact absurd rfl (no i)
      cases t' with
      | lst h l r =>
        rw [← hK]
        exact ⟨_, rfl, ⟨_, .of (hid_some.mp h).2⟩, p _ H ρ _ .refl ok ⟨_, h, r⟩ src_list⟩
    split at p
    · rename_i ds' μ' e
      split at e
      · cases e; exact key (by simp) p (fun i z => nomatch z)
      · cases e; exact key (by simp) p (fun i z => nomatch z)
      · cases e
    · rename_i e
      split at e <;> cases e
    · exact p.elim) σ H R q
theorem dl_tup (hK : c.K = X.K) (he : PE X e (tD c W fe)) : PI X tg e (tL c W (lT fe)) := (pi_tup he).imp fun σ H R q =>
  tD_bindL (g := fun s r μ1 => match r with | .val (.tup ds) => .ok ds μ1 | _ => .bad) (k := fun σ x H1 R => ∃ a, x = .ref a ∧ (∃ xs, SqT X.K H1 a xs) ∧ R (Itt X.K a) H1) (fun ρ s μ σ H r v R rep p => by
    split at p
    · rename_i ds' μ' e
      split at e
      · cases e
        obtain ⟨t, ok⟩ := rep
        cases t with
        | tup h l r =>
          rw [← hK]
          exact ⟨_, rfl, ⟨_, .of (hid_some.mp h).2⟩, p _ H ρ _ .refl ok ⟨_, h, r⟩ src_tup⟩
      · cases e
    · rename_i e
      split at e <;> cases e
    · exact p.elim) σ H R q
theorem dl_rng1 {a : Expr} (hg : Gl X "range") (hm : X.mg "range" = none) (ha : PA X [a] (tA c W fs)) (hs : starEach [a] X.env = [(false, eval a X.env)] := by rfl) : PI X tg (.Call (.Name "range" p) [a] [] pos) (tL c W (lR1 fs)) := (pi_range1 hg hm ha hs).imp fun σ H R q =>
  tA_bindL (g := fun s rs μ1 => match rs with | [.val (.int n)] => if rgOk n = true then .ok (rngD 0 n.toNat) μ1 else .bad | _ => .bad) (k := fun σ vs H1 R => ∃ j : Int, vs = [.int j] ∧ -(2 ^ 62) ≤ j ∧ j < 2 ^ 62 ∧ R (Itr 0 j.toNat) H1) (fun ρ s μ σ H r v R tm ok p => by
    split at p
    · rename_i ds' μ' e
      split at e
      · split at e
        · rename_i h
          cases e
          cases tm with
          | cons t ts =>
            cases ts
            cases (show Rep c.K _ (.int _) _ from t)
            exact ⟨_, rfl, (rgOk_iff h).1, (rgOk_iff h).2, p _ H ρ _ .refl ok trivial src_rng⟩
        · cases e
      · cases e
    · rename_i e
      split at e
      · split at e <;> cases e
      · cases e
    · exact p.elim) σ H R q
theorem dl_rng2 {a b : Expr} (hg : Gl X "range") (hm : X.mg "range" = none) (ha : PA X [a, b] (tA c W fs)) (hs : starEach [a, b] X.env = [(false, eval a X.env), (false, eval b X.env)] := by rfl) (hs2 : starEach [b] X.env = [(false, eval b X.env)] := by rfl) : PI X tg (.Call (.Name "range" p) [a, b] [] pos) (tL c W (lR2 fs)) := (pi_range2 hg hm ha hs hs2).imp fun σ H R q =>
  tA_bindL (g := fun s rs μ1 => match rs with | [.val (.int a), .val (.int b)] => if rgOk a = true ∧ rgOk b = true then .ok (rngD a (b - a).toNat) μ1 else .bad | _ => .bad) (k := fun σ vs H1 R => ∃ i j : Int, vs = [.int i, .int j] ∧ (-(2 ^ 62) ≤ i ∧ i < 2 ^ 62 ∧ -(2 ^ 62) ≤ j ∧ j < 2 ^ 62) ∧ R (Itr i (j - i).toNat) H1) (fun ρ s μ σ H r v R tm ok p => by
    split at p
    · rename_i ds' μ' e
      split at e
      · split at e
        · rename_i h
          cases e
          cases tm with
          | cons t ts =>
            cases ts with
            | cons t2 ts =>
              cases ts
              cases (show Rep c.K _ (.int _) _ from t)
              cases (show Rep c.K _ (.int _) _ from t2)
              exact ⟨_, _, rfl, ⟨(rgOk_iff h.1).1, (rgOk_iff h.1).2, rgOk_iff h.2⟩, p _ H ρ _ .refl ok trivial src_rng⟩
        · cases e
      · cases e
    · rename_i e
      split at e
      · split at e <;> cases e
      · cases e
    · exact p.elim) σ H R q
end
/-! ### targets -/
abbrev TgF := D → Sl → Option Sl
abbrev TgsF := List D → Sl → Option Sl
def tgName (i : Nat) : TgF := fun d s => some (s.set i (some (.val d)))
def tgNil : TgsF := fun ds s => match ds with | [] => some s | _ => none
def tgCons (t : TgF) (u : TgsF) : TgsF := fun ds s => match ds with
  | d :: r => (t d s).bind fun s1 => u r s1
  | [] => none
def tgTup (n : Nat) (t : TgsF) : TgF := fun d s => match d with
  | .tup ds => if ds.length = n then t ds s else none
  | _ => none
theorem wipe_set (σ : St) (i : Nat) (v : Option V) : ∀ vs : List Nat, wipe (σ.set i v) vs = if i ∈ vs then wipe σ vs else (wipe σ vs).set i v
  | [] => by simp [wipe]
  | j :: vs => by
    unfold wipe
    rw [wipe_set σ i v vs]
    by_cases h : i ∈ vs
    · simp [h]
    · rw [if_neg h]
      by_cases h2 : i = j
      · subst h2; simp
      · rw [List.set_comm _ _ h2]; simp [h, h2]
theorem wipe_idem (σ : St) : ∀ vs : List Nat, ∀ ws : List Nat, (∀ i, i ∈ ws → i ∈ vs) → wipe (wipe σ ws) vs = wipe σ vs
  | vs, [], _ => rfl
  | vs, j :: ws, h => by
    show wipe ((wipe σ ws).set j none) vs = wipe σ vs
    rw [wipe_set, if_pos (h j List.mem_cons_self), wipe_idem σ vs ws fun i hi => h i (List.mem_cons_of_mem _ hi)]
structure GOk (c : Cc) (g : TG) (is : List Nat) (tg : TgF) : Prop where
  ok : ∀ ρ x s s' μ σ H d v Q, Ok c ρ x s μ σ H → Rep c.K (hid H (x ++ ρ)) d v → tg d s = some s' → (∀ σ', Ok c ρ x s' μ σ' H → (∀ vs, (∀ i, i ∈ is → i ∈ vs) → wipe σ' vs = wipe σ vs) → Q σ' H) → g v σ H Q
structure GsOk (c : Cc) (g : TGs) (is : List Nat) (tg : TgsF) : Prop where
  ok : ∀ ρ x s s' μ σ H d v Q, Ok c ρ x s μ σ H → Reps c.K (hid H (x ++ ρ)) d v → tg d s = some s' → (∀ σ', Ok c ρ x s' μ σ' H → (∀ vs, (∀ i, i ∈ is → i ∈ vs) → wipe σ' vs = wipe σ vs) → Q σ' H) → g v σ H Q
section
variable {c : Cc}
theorem g_name {i : Nat} : GOk c (gName i) [i] (tgName i) := ⟨fun ρ x s s' μ σ H d v Q ok r e q => by
  cases e
  exact q _ (ok.store (r := .val d) r i) fun vs h => by rw [wipe_set, if_pos (h i (by simp))]⟩
theorem gs_nil : GsOk c gNil [] tgNil := ⟨fun ρ x s s' μ σ H d v Q ok r e q => by
  unfold tgNil at e
  split at e
  · cases e; cases r
    exact ⟨rfl, q σ ok fun _ _ => rfl⟩
  · cases e⟩
theorem gs_cons {t : TG} {u : TGs} {is js : List Nat} {tf : TgF} {uf : TgsF} (h : GOk c t is tf) (h2 : GsOk c u js uf) : GsOk c (gCons t u) (is ++ js) (tgCons tf uf) := ⟨fun ρ x s s' μ σ H d v Q ok r e q => by
  unfold tgCons at e
  split at e
  · rename_i d1 ds
    cases r with
    | cons r1 rr =>
      cases e1 : tf d1 s with
      | none => rw [e1] at e; cases e
      | some s1 =>
        rw [e1] at e
        refine ⟨_, _, rfl, h.ok _ _ _ _ _ _ _ _ _ _ ok r1 e1 fun σ1 ok1 w1 => h2.ok _ _ _ _ _ _ _ _ _ _ ok1 rr e fun σ2 ok2 w2 => q σ2 ok2 fun vs hv => ?_⟩
        rw [w2 vs fun i hi => hv i (List.mem_append_right _ hi), w1 vs fun i hi => hv i (List.mem_append_left _ hi)]
  · cases e⟩
theorem g_tup {n : Nat} {t : TGs} {is : List Nat} {tf : TgsF} (h : GsOk c t is tf) : GOk c (gTup c.K n t) is (tgTup n tf) := ⟨fun ρ x s s' μ σ H d v Q ok r e q => by
  unfold tgTup at e
  split at e
  · split at e
    · rename_i hn
      cases r with
      | tup h1 l r1 => exact ⟨_, _, rfl, .of (hid_some.mp h1).2, by rw [r1.length]; exact hn, h.ok _ _ _ _ _ _ _ _ _ _ ok r1 e q⟩
    · cases e
  · cases e⟩
end
end Dl

namespace Dl
open PySem PySem.Spec PyProof.Rows L2
/-! ### enumerate over a tuple -/
theorem meets_enumT (l : Addr) (items : Array Value) (n : Nat) (dct : Option Addr) (sl : Array (Option Value)) :
    Meets (Builtin.«enumerate.__new__» ⟨[.type "enumerate", .ref l], []⟩) (fun _ R s => s.heap.get? l = some ⟨.type "tuple", dct, .seq items n, sl⟩ ∧
      R (.ok (.ret (.ref (s.heap.push { cls := .type "tuple_iterator", data := .fields #[.ref l, .int 0 0] }).objs.size)))
        { s with heap := (s.heap.push { cls := .type "tuple_iterator", data := .fields #[.ref l, .int 0 0] }).push { cls := .type "enumerate", data := .fields #[.none, .bool false, .ref s.heap.objs.size, rawInt 0, .none, .none] } }) :=
  .of_wp fun prog w A R s hh => by
    obtain ⟨hl, h⟩ := hh
    obtain ⟨hp, g, d, tk, os⟩ := s
    have hsub := sub_enumerate
    have hT : Heap.IsTuple (Shared.heap ⟨hp, g, d, tk, os⟩) l items := ⟨_, hl, rfl, n, rfl⟩
    wp_walk using wpAny_loadPart' hl
    refine wpAny_stack_any fun st => wpAny_pure ?_
    split
    · rename_i c _ _ _ _ _
      cases (c == Value.type "enumerate")
      all_goals
        wp_walk using wpAny_loadPart' hl, wpAny_pyIter_tuple hT
        exact ⟨_, rfl, h⟩
    · wp_walk using wpAny_loadPart' hl, wpAny_pyIter_tuple hT
      exact ⟨_, rfl, h⟩
section
variable {prog : Program} {w : World} {A : Around} {E : Value → Shared → Prop} {s : Shared}
theorem call_enumT {l : Addr} {items : Array Value} {Q : Value → Shared → Prop} (hT : s.heap.IsTuple l items)
    (q : ∀ h', IsEnum h' (s.heap.objs.size + 1) s.heap.objs.size 0 .none → h'.IsTupleIter s.heap.objs.size l 0 → h'.objs.size = s.heap.objs.size + 2 →
      (∀ b o, s.heap.get? b = some o → h'.get? b = some o) → Q (.ref (s.heap.objs.size + 1)) { s with heap := h' }) :
    wpAny (model prog w) A (call (.type "enumerate") [.ref l]) Q E s := by
  obtain ⟨⟨k, od, dat, slots⟩, ho, ek, n, ed⟩ := hT
  have ek : k = .type "tuple" := ek
  have ed : dat = .seq items n := ed
  subst ek; subst ed
  refine callType_new F.called_enumerate (by decide) (F.typeCall_enumerate_1 _) (F.newCall_enumerate_1 _) (fun obj => F.args_object_init_2 obj _) F.entry_enumerate_new (meets_enumT l items n od slots) ⟨ho, ?_⟩
  generalize hg : s.heap.push { cls := .type "tuple_iterator", data := .fields #[.ref l, .int 0 0] } = g
  have sz : g.objs.size = s.heap.objs.size + 1 := by rw [← hg]; exact Heap.size_push ..
  have k1 : ∀ b o, s.heap.get? b = some o → g.get? b = some o := fun b o x => by rw [← hg]; exact Heap.get?_push_of_some _ x
  have k2 : g.get? s.heap.objs.size = some { cls := .type "tuple_iterator", data := .fields #[.ref l, .int 0 0] } := by rw [← hg]; exact Heap.get?_push_size _ rfl
  have k3 := Heap.get?_push_size g (o := { cls := .type "enumerate", data := .fields #[.none, .bool false, .ref s.heap.objs.size, rawInt 0, .none, .none] }) rfl
  show _ ∧ _
  rw [sz] at k3 ⊢
  exact ⟨⟨_, k3, rfl⟩, q _ k3 ⟨_, Heap.get?_push_of_some _ k2, rfl, rfl⟩ (by rw [Heap.size_push, sz]) fun b o x => Heap.get?_push_of_some _ (k1 b o x)⟩
end
/-- numbered items of the tuple at a -/
def IteT (K : PySem.W.Frag) (a : Addr) : It where
  go := fun i H => ∃ xs x, SqT K H a xs ∧ xs[i]? = some x
  yld := fun i H v H' => ∃ T x, v = V.ref T ∧ H T = none ∧ H' = upd H T (.tup [.int (i : Nat), x]) ∧ ∀ xs, SqT K H a xs → xs[i]? = some x
  stop := fun i H => ∃ xs, SqT K H a xs ∧ xs.length = i
theorem isTuple_of {h : Heap} {a : Addr} {its : Array Value} (p : IsTup h a its) : h.IsTuple a its := p
theorem turn_enumT {P : Program} {w : World} {K : PySem.W.Frag} {elts : List Expr} {kk : Nat} {tpos : Pos} (a e it : Addr) (hat : a ≠ it) (hae : a ≠ e) :
    Turn P w K (.Tuple elts kk tpos) (IteT K a) [e, it] e (fun i h => (∃ old, IsEnum h e it ((i : Nat) : Int) old) ∧ h.IsTupleIter it a i ∧ e ≠ it) where
  mem := by simp
  obj := by
    rintro i h ⟨⟨old, h1⟩, ⟨o, h2, _, h3⟩, _⟩ b hb
    simp only [List.mem_cons, List.not_mem_nil, or_false] at hb
    rcases hb with rfl | rfl
    · exact ⟨_, h1, fun v q => nomatch q⟩
    · exact ⟨o, h2, fun v q => by rw [h3] at q; cases q⟩
  keep := by
    rintro i h h' ⟨⟨old, h1⟩, ⟨o, h2, h3⟩, ne⟩ k
    exact ⟨⟨old, k e (by simp) _ h1⟩, ⟨o, k it (by simp) _ h2, h3⟩, ne⟩
  item := by
    intro X hP hw hK hc i pins s σ H E I hf st hg
    subst hP; subst hw; subst hK
    obtain ⟨⟨old, h1⟩, h2, ne⟩ := st
    obtain ⟨xs, x, hq, hx⟩ := hg
    obtain ⟨its, rv, pt, hz⟩ := I.tuple hq
    obtain ⟨u, hu, ru⟩ := rv.get hx
    have le : e < s.heap.objs.size := Heap.lt_size h1
    have li : it < s.heap.objs.size := by obtain ⟨_, q, _⟩ := h2; exact Heap.lt_size q
    have hd : X.A.in1.handled = none := I.ok.hd hc
    have hu' : its.toArray[i]? = some u := by simpa using hu
    have lt : i < its.toArray.size := (Array.getElem?_eq_some_iff.mp hu').1
    refine wpAny_pyNext_enum_itemD (Draws.tuple hd it a hat its.toArray) h1 ⟨h2, isTuple_of pt⟩ lt ne (by simp [ne, Ne.symm hae]) fun y h' tk hy ho hst hT hsz hk => ?_
    obtain rfl : y = u := by
      have z : its.toArray[i]? = some y := hy
      rw [hu'] at z; exact (Option.some.inj z).symm
    refine ⟨_, rfl, wpAny_letOwnedTupleGo_enum (s := { s with heap := h', toks := tk + 1 }) ho fun h2' he' sb => ?_⟩
    have hT2 : h2'.get? s.heap.objs.size = some { cls := .type "tuple", data := .seq #[.int i tk, y] } := (sb.2 _ (Nat.ne_of_gt le)).trans hT
    have new : ObjOk X.prog X.w (upd H s.heap.objs.size (.tup [.int (i : Nat), x])) h2' s.heap.objs.size (.tup [.int (i : Nat), x]) :=
      ⟨by show 2 ≤ sizeLine; decide, [.int i tk, y], .cons ⟨_, rfl⟩ (.cons ru .nil), ⟨_, hT2, rfl, _, rfl⟩⟩
    have I1 : Inv X pins σ (upd H s.heap.objs.size (.tup [.int (i : Nat), x])) { s with heap := h2', toks := tk + 1 } :=
      I.turnedNew (ch := [e, it]) (fun b ob hb q => (sb.2 b (fun z => hb (by simp [z]))).trans (hk b ob (fun z => hb (by simp [z])) (fun z => hb (by simp [z])) q)) hf (Nat.le_refl _) new
    refine ⟨.ref s.heap.objs.size, _, I1, rfl, ⟨_, x, rfl, I.hok.fresh (Nat.le_refl _), rfl, fun ys hy => by rw [I.tuple_inj hy hq]; exact hx⟩, ⟨⟨y, ?_⟩, ?_, ne⟩, fun b hb => ?_⟩
    · have q : ((i + 1 : Nat) : Int) = (i : Int) + 1 := by omega
      rw [q]; exact he'
    · obtain ⟨⟨o, q1, q2⟩, _⟩ := hst
      exact ⟨o, (sb.2 it (Ne.symm ne)).trans q1, q2⟩
    · have lb : b < s.heap.objs.size := by
        simp only [List.mem_cons, List.not_mem_nil, or_false] at hb
        rcases hb with rfl | rfl
        · exact le
        · exact li
      rw [upd_ne (Nat.ne_of_lt lb)]
      exact (hf b hb).1
  done := by
    intro X hP hw hK hc i pins s σ H E I hf st hg
    subst hP; subst hw; subst hK
    obtain ⟨⟨old, h1⟩, h2, ne⟩ := st
    obtain ⟨xs, hq, hx⟩ := hg
    obtain ⟨its, rv, pt, hz⟩ := I.tuple hq
    have hl := rv.length
    obtain ⟨f0, f1, f2, f3, f4, f5⟩ := hf it (by simp)
    have hd : X.A.in1.handled = none := I.ok.hd hc
    have e2 : i = its.toArray.size := by simp; omega
    exact wpAny_pyNext_enum_endD (Draws.tuple hd it a hat its.toArray) h1 (by rw [← e2]; exact ⟨h2, isTuple_of pt⟩) fun h' eb => ⟨rfl, I.turned (t' := s.toks) (fun b o hb e => eb b o hb e) f0 f1 f3 f4 f5⟩
  self := fun _ _ _ _ _ st h => by
    obtain ⟨⟨old, h1⟩, _⟩ := st
    exact wpAny_pyIter_enum h1 h
def iEnumT (K : PySem.W.Frag) (ta : TA) : TI := fun σ H R => ta σ H fun vs H1 => ∃ a xs, vs = [V.ref a] ∧ SqT K H1 a xs ∧ R (IteT K a) H1
theorem pi_enumT {X : Cx} {e : Expr} {ta : TA} {p pos tpos : Pos} {elts : List Expr} {kk : Nat} (hg : Gl X "enumerate") (hm : X.mg "enumerate" = none) (ha : PA X [e] ta) (hs : starEach [e] X.env = [(false, eval e X.env)] := by rfl) :
    PI X (.Tuple elts kk tpos) (.Call (.Name "enumerate" p) [e] [] pos) (iEnumT X.K ta) := by
  constructor
  intro pins s σ H R I h
  refine Call_ (ld_blt I hg hm boot_enumerate (PyProof.Rows.callWith_type1 (thn (ha.run pos pins s σ H _ I h) fun us s1 hh => ?_) hs rfl))
  obtain ⟨vs, H1, I1, r1, a, xs, ev, hq, q⟩ := hh
  subst ev
  match us, r1 with
  | [u], .cons r .nil =>
    cases r
    obtain ⟨its, rv, pt, hz⟩ := I1.tuple hq
    have la : a < s1.heap.objs.size := pt.lt
    refine call_enumT (isTuple_of pt) fun h' he hit hsz hk => wpAny_pyIter_enum he ?_
    have I2 : Inv X pins σ H1 { s1 with heap := h' } := I1.kept (t' := s1.toks) hk
    refine ⟨s1.heap.objs.size + 1, [s1.heap.objs.size + 1, s1.heap.objs.size], _, _, H1, rfl, I2, turn_enumT a (s1.heap.objs.size + 1) s1.heap.objs.size (Nat.ne_of_lt la) (Nat.ne_of_lt (Nat.lt_succ_of_lt la)), ⟨⟨.none, he⟩, hit, Nat.succ_ne_self _⟩, fun b hb => ?_, q⟩
    have hle : s1.heap.objs.size ≤ b := by
      simp only [List.mem_cons, List.not_mem_nil, or_false] at hb
      rcases hb with rfl | rfl
      · exact Nat.le_succ _
      · exact Nat.le_refl _
    exact I1.fpOk hle (I1.hok.fresh hle)
def enumD : Nat → List D → List D
  | _, [] => []
  | i, d :: ds => .tup [.int i, d] :: enumD (i + 1) ds
theorem enumD_length : ∀ (ds : List D) (i : Nat), (enumD i ds).length = ds.length
  | [], _ => rfl
  | d :: ds, i => by rw [enumD, List.length_cons, List.length_cons, enumD_length ds]
theorem enumD_get : ∀ (ds : List D) (i j : Nat) {x : D}, (enumD i ds)[j]? = some x → ∃ d, ds[j]? = some d ∧ x = .tup [.int ((i + j : Nat) : Int), d]
  | [], _, _, _, e => by simp [enumD] at e
  | d :: ds, i, 0, x, e => by
    have e : D.tup [.int i, d] = x := by simpa [enumD] using e
    exact ⟨d, rfl, e.symm⟩
  | d :: ds, i, j + 1, x, e => by
    obtain ⟨d', h1, h2⟩ := enumD_get ds (i + 1) j (by simpa [enumD] using e)
    exact ⟨d', by simpa using h1, by rw [h2]; congr 4; omega⟩
/-- enumerate(a tuple) -/
def lEnT (f : AF) : LF := fun s μ => (f s μ).bindL fun rs μ1 => match rs with
  | [.val (.tup ds)] => .ok (enumD 0 ds) μ1
  | _ => .bad
section
variable {c : Cc} {W : WX} {X : Cx} {fs : AF} {pos p : Pos}
theorem src_enT {a : Addr} {ds : List D} : SrcOk c (IteT c.K a) (enumD 0 ds) (fun ρ H => ∃ vs, hid H ρ a = some (.tup vs) ∧ Reps c.K (hid H ρ) ds vs) where
  stay := fun ρ H x ρ' H' ⟨vs, h, r⟩ st => ⟨vs, st.weak.keep.tup _ _ h, r.keep st.weak.keep⟩
  stop := fun ρ H ⟨vs, h, r⟩ => ⟨vs, .of (hid_some.mp h).2, by rw [r.length, enumD_length]⟩
  go := fun ρ H i ⟨vs, h, r⟩ hi => by
    rw [enumD_length] at hi
    obtain ⟨v, h1, h2⟩ := r.get (List.getElem?_eq_getElem hi)
    exact ⟨vs, v, .of (hid_some.mp h).2, h1⟩
  yld := fun ρ s μ σ H i d x H' ok ⟨vs, h, r⟩ hd ⟨T, y, e, hT, eH, hx⟩ => by
    subst e; subst eH
    obtain ⟨d1, h1, rfl⟩ := enumD_get _ _ _ hd
    obtain ⟨v, h2, h3⟩ := r.get h1
    have z := hx vs (.of (hid_some.mp h).2)
    rw [h2] at z; cases z
    refine ⟨.alloc hT, (ok.alloc hT).xnil, .tup (hid_some.mpr ⟨(ok.fresh hT).1, upd_same⟩) (by show 2 ≤ sizeLine; rw [sizeLine_eq]; decide) ?_⟩
    rw [Nat.zero_add]
    exact .cons (.int _) (.cons (h3.keep (StepX.alloc hT).keep) .nil)
theorem dl_enT {a : Expr} {elts : List Expr} {kk : Nat} {tpos : Pos} (hK : c.K = X.K) (hg : Gl X "enumerate") (hm : X.mg "enumerate" = none) (ha : PA X [a] (tA c W fs)) (hs : starEach [a] X.env = [(false, eval a X.env)] := by rfl) :
    PI X (.Tuple elts kk tpos) (.Call (.Name "enumerate" p) [a] [] pos) (tL c W (lEnT fs)) := (pi_enumT hg hm ha hs).imp fun σ H R q =>
  tA_bindL (g := fun s rs μ1 => match rs with | [.val (.tup ds)] => .ok (enumD 0 ds) μ1 | _ => .bad) (k := fun σ vs H1 R => ∃ a xs, vs = [V.ref a] ∧ SqT X.K H1 a xs ∧ R (IteT X.K a) H1) (fun ρ s μ σ H r v R tm ok p => by
    split at p
    · rename_i ds' μ' e
      split at e
      · cases e
        cases tm with
        | cons t ts =>
          cases ts
          cases (show Rep c.K _ (.tup _) _ from t) with
          | tup h l r =>
            rw [← hK]
            exact ⟨_, _, rfl, .of (hid_some.mp h).2, p _ H ρ _ .refl ok ⟨_, h, r⟩ src_enT⟩
      · cases e
    · rename_i e
      split at e <;> cases e
    · exact p.elim) σ H R q
end
end Dl

namespace Dl
open PySem PySem.Spec PyProof.Rows L2
/-! ### for -/
def forL (tg : TgF) (body : SF) : List D → Sl → Mu → SRes
  | [], s, μ => .nx s μ
  | d :: ds, s, μ => match tg d s with
    | none => .bad
    | some s1 => match body s1 μ with
      | .nx s2 μ2 => forL tg body ds s2 μ2
      | .ct s2 μ2 => forL tg body ds s2 μ2
      | .bk s2 μ2 => .nx s2 μ2
      | .rt r μ2 => .rt r μ2
      | .exc C s2 μ2 => .exc C s2 μ2
      | .bad => .bad
def sFor (src : LF) (tg : TgF) (body : SF) : SF := fun s μ => match src s μ with
  | .ok ds μ1 => forL tg body ds s μ1
  | .exc C μ1 => .exc C s μ1
  | .bad => .bad
section
variable {c : Cc} {W : WX} {X : Cx} {tg iter : Expr} {body : List Stmt} {src : LF} {g : TG} {is : List Nat} {tgf : TgF} {fb : SF} {pos : Pos}
theorem ds_for (hp : PassesOwn (model X.prog X.w) X.A X.env X.xe) (hc : X.calm = true) (hi : PI X tg iter (tL c W src)) (hg : PG X tg g) (ok : GOk c g is tgf) (hb : PSs X body (tS c W fb))
    (hs : ∀ x, foldedSetIterable iter X.env x = pure x := by intro _; rfl) : PS X (.For tg iter body [] pos) (tS c W (sFor src tgf fb)) := (ps_for hp hc hi hg hb hs).imp fun D σ H q => by
  obtain ⟨ρ, s, μ, k, p⟩ := q
  refine ⟨ρ, s, μ, k, ?_⟩
  dsimp only [sFor] at p
  cases e : src s μ with
  | exc C μ1 => rw [e] at p; exact fun H' ρ' st ok' => p σ H' ρ' st ok'
  | bad => rw [e] at p; exact p
  | ok ds μ1 =>
    rw [e] at p
    intro J H1 ρ1 G st1 ok1 g1 S
    refine ⟨fun i m σ H => i + m = ds.length ∧ ∃ ρ s μ, Ok c ρ [] s μ σ H ∧ G ρ H ∧ PostS c W ρ H D (forL tgf fb (ds.drop i) s μ), ⟨ds.length, by omega, ρ1, s, μ1, ok1, g1, by rw [List.drop_zero]; exact PostS.from st1 p⟩, ?_⟩
    rintro i m σ2 H2 ⟨him, ρ2, s2, μ2, ok2, g2, p2⟩
    by_cases hm : m = 0
    · have hi : i = ds.length := by omega
      left
      subst hi
      rw [List.drop_length] at p2
      exact ⟨S.stop _ _ g2, p2 σ2 H2 ρ2 .refl ok2⟩
    · have hi : i < ds.length := by omega
      right
      refine ⟨S.go _ _ _ g2 hi, fun σ H => ∃ ρ s μ, Ok c ρ [] s μ σ H ∧ G ρ H ∧ PostS c W ρ H D (forL tgf fb (ds.drop (i + 1)) s μ), fun σ' H' ⟨ρ', s', μ', h1, h2, h3⟩ => ⟨m - 1, by omega, by omega, ρ', s', μ', h1, h2, h3⟩, fun x H3 hy => ?_⟩
      obtain ⟨st3, ok3, r3⟩ := S.yld _ _ _ _ _ _ _ _ _ ok2 g2 (List.getElem?_eq_getElem hi) hy
      have g3 := S.stay _ _ _ _ _ g2 st3
      rw [List.drop_eq_getElem_cons hi] at p2
      unfold forL at p2
      cases e1 : tgf ds[i] s2 with
      | none => rw [e1] at p2; exact p2.elim
      | some s3 =>
        rw [e1] at p2
        have p3 := PostS.from st3 p2
        refine ok.ok ρ2 [] s2 s3 μ2 σ2 H3 ds[i] x _ ok3 (by simpa using r3) e1 fun σ4 ok4 _ => ⟨ρ2, s3, μ2, ok4, ?_⟩
        dsimp only at p3
        cases e2 : fb s3 μ2 with
        | nx s5 μ5 => rw [e2] at p3; exact fun σ' H' ρ' st ok' => ⟨ρ', s5, μ5, ok', S.stay _ _ _ _ _ g3 st, PostS.from st p3⟩
        | ct s5 μ5 => rw [e2] at p3; exact fun σ' H' ρ' st ok' => ⟨ρ', s5, μ5, ok', S.stay _ _ _ _ _ g3 st, PostS.from st p3⟩
        | bk s5 μ5 => rw [e2] at p3; exact p3
        | rt r μ5 => rw [e2] at p3; exact p3
        | exc C s5 μ5 => rw [e2] at p3; exact p3
        | bad => rw [e2] at p3; exact p3
end
/-! ### while: at most n turns -/
def whileL (t : TF) (body : SF) : Nat → Sl → Mu → SRes
  | 0, _, _ => .bad
  | n + 1, s, μ => match t s μ with
    | .bad => .bad
    | .exc C μ1 => .exc C s μ1
    | .ok b μ1 => if b = true then match body s μ1 with
      | .nx s2 μ2 => whileL t body n s2 μ2
      | .ct s2 μ2 => whileL t body n s2 μ2
      | .bk s2 μ2 => .nx s2 μ2
      | .rt r μ2 => .rt r μ2
      | .exc C s2 μ2 => .exc C s2 μ2
      | .bad => .bad
      else .nx s μ1
def sWhile (n : Nat) (t : TF) (body : SF) : SF := fun s μ => whileL t body n s μ
section
variable {c : Cc} {W : WX} {X : Cx} {tst : Expr} {body : List Stmt} {t : TF} {fb : SF} {pos : Pos}
theorem ds_while (n : Nat) (hp : PassesOwn (model X.prog X.w) X.A X.env X.xe) (ht : PT X tst (tT c W t)) (hb : PSs X body (tS c W fb)) : PS X (.While tst body [] pos) (tS c W (sWhile n t fb)) := (ps_while hp ht hb).imp fun D σ H q => by
  obtain ⟨ρ, s, μ, k, p⟩ := q
  refine ⟨fun m σ H => ∃ ρ s μ, Ok c ρ [] s μ σ H ∧ PostS c W ρ H D (whileL t fb m s μ), ⟨n, ρ, s, μ, k, p⟩, ?_⟩
  rintro m σ2 H2 ⟨ρ2, s2, μ2, ok2, p2⟩
  match m, p2 with
  | 0, p2 => exact p2.elim
  | m + 1, p2 =>
    unfold whileL at p2
    refine ⟨ρ2, s2, μ2, ok2, ?_⟩
    cases e : t s2 μ2 with
    | bad => rw [e] at p2; exact p2
    | exc C μ3 => rw [e] at p2; exact fun H' ρ' st ok' => p2 σ2 H' ρ' st ok'
    | ok b μ3 =>
      rw [e] at p2
      intro H3 ρ3 st3 ok3
      have p3 := PostS.from st3 p2
      dsimp only at p3
      cases b with
      | false => exact p3 σ2 H3 ρ3 .refl ok3
      | true =>
        rw [if_pos rfl] at p3 ⊢
        refine ⟨fun σ H => ∃ ρ s μ, Ok c ρ [] s μ σ H ∧ PostS c W ρ H D (whileL t fb m s μ), fun σ' H' h => ⟨m, Nat.lt_succ_self _, h⟩, ρ3, s2, μ3, ok3, ?_⟩
        cases e2 : fb s2 μ3 with
        | nx s5 μ5 => rw [e2] at p3; exact fun σ' H' ρ' st ok' => ⟨ρ', s5, μ5, ok', PostS.from st p3⟩
        | ct s5 μ5 => rw [e2] at p3; exact fun σ' H' ρ' st ok' => ⟨ρ', s5, μ5, ok', PostS.from st p3⟩
        | bk s5 μ5 => rw [e2] at p3; exact p3
        | rt r μ5 => rw [e2] at p3; exact p3
        | exc C s5 μ5 => rw [e2] at p3; exact p3
        | bad => rw [e2] at p3; exact p3
end
/-! ### list comprehensions -/
def wipeS (s : Sl) : List Nat → Sl
  | [] => s
  | v :: vs => (wipeS s vs).set v none
theorem SlK.wipe {K : PySem.W.Frag} {ρ : List Addr} {H : Hp} {s : Sl} {σ : St} (h : SlK K ρ H s σ) : ∀ vs : List Nat, SlK K ρ H (wipeS s vs) (L2.wipe σ vs)
  | [] => h
  | v :: vs => (SlK.wipe h vs).unset v
def dataOf : R → Option D
  | .val d => some d
  | .newL xs => some (.lst xs)
  | .newD xs => some (.dct xs)
  | .obj _ => none
@[simp] theorem dataOf_val {d} : dataOf (.val d) = some d := rfl
@[simp] theorem dataOf_newL {d} : dataOf (.newL d) = some (.lst d) := rfl
@[simp] theorem dataOf_newD {d} : dataOf (.newD d) = some (.dct d) := rfl
/-- the new list is an object of the store, of number k, while it grows -/
def compL (tg : TgF) (t : TF) (f : EF) (s : Sl) (k : Nat) : List D → Mu → Res
  | [], μ => match μ[k]? with
    | some (.lst acc) => .ok (.newL acc) (μ.take k)
    | _ => .bad
  | d :: ds, μ => match tg d s with
    | none => .bad
    | some s1 => match t s1 μ with
      | .ok b μ1 => if b = true then match f s1 μ1 with
        | .ok r μ2 => match dataOf r, μ2[k]? with
          | some d', some (.lst acc) => if acc.length < sizeLine then compL tg t f s k ds (μ2.set k (.lst (acc ++ [d']))) else .bad
          | _, _ => .bad
        | _ => .bad
        else compL tg t f s k ds μ1
      | _ => .bad
def eComp (src : LF) (tg : TgF) (t : TF) (f : EF) (vs : List Nat) : EF := fun s μ => match src s μ with
  | .ok ds μ1 => compL tg t f (wipeS s vs) μ1.length ds (μ1 ++ [.lst []])
  | .exc C μ1 => .exc C μ1
  | .bad => .bad
def tYesF : TF := fun _ μ => .ok true μ
abbrev Wn : WX := fun _ _ _ _ => False
theorem dataOf_tmp {K : PySem.W.Frag} {ρ : List Addr} {H : Hp} : ∀ {r : R} {v : V} {d : D}, Tmp K ρ H r v → dataOf r = some d → Rep K H d v
  | .val _, _, _, t, e => by cases e; exact t
  | .newL _, _, _, t, e => by cases e; exact t
  | .newD _, _, _, t, e => by cases e; exact t
  | .obj _, _, _, t, e => by cases e
theorem tabs_upd {T : List (Addr × Str)} {H : Hp} {a : Addr} {o o' : HO} (t : LamX.Tabs T H) (h : H a = some o) (n1 : ∀ ps, o ≠ .tbl ps) (n2 : ∀ φ, o ≠ .ext φ) : LamX.Tabs T (upd H a o') := fun p hp => by
  obtain ⟨ps, h1, h2, h3⟩ := t p hp
  have ne : ∀ {b : Addr} {u : HO}, H b = some u → u ≠ o → b ≠ a := fun e n z => by
    rw [z, h] at e; exact n (Option.some.inj e).symm
  refine ⟨ps, by rw [upd_ne (ne h1 fun z => n1 ps z.symm)]; exact h1, h2, fun pos cv hc => ?_⟩
  obtain ⟨c, e1, e2⟩ := h3 pos cv hc
  exact ⟨c, e1, by rw [upd_ne (ne e2 fun z => n2 _ z.symm)]; exact e2⟩
section
variable {c : Cc} {W : WX} {X : Cx}
theorem dts_nil : PTs X [] (tT c W tYesF) := pts_nil.imp fun σ H Q ⟨ρ, s, μ, ok, p⟩ => p H ρ .refl ok
theorem dts_one {e : Expr} {t : TF} (h : PT X e (tT c W t)) : PTs X [e] (tT c W t) := pts_one h
/-- the slots of an earlier state -/
theorem Ok.back {ρ ρ' : List Addr} {s s1 : Sl} {μ μ' : Mu} {σ σ1 : St} {H H' : Hp} (k : Ok c ρ [] s μ σ H) (st : StepX ρ H [] ρ' H') (k1 : Ok c ρ' [] s1 μ' σ1 H') : Ok c ρ' [] s μ' σ H' :=
  ⟨k1.g, by simpa using k.sl.keep st.ext (by simpa using st.keep), k1.dom, k1.new, k1.le⟩
/-- an object that is a list is changed -/
theorem Ok.putL {ρ : List Addr} {s : Sl} {μ : Mu} {σ : St} {H : Hp} {a : Addr} {old : List D} {new : List D} {vs : List V} {k : Nat} (ok : Ok c ρ [] s μ σ H) (hk : ρ[k]? = some a) (hm : μ[k]? = some (.lst old)) (r : Reps c.K (hid H ρ) new vs) (l : vs.length ≤ sizeLine) :
    Ok c ρ [] s (μ.set k (.lst new)) σ (upd H a (.lst vs)) ∧ StepX ρ H [] ρ (upd H a (.lst vs)) := by
  have hD : a ∈ ρ := List.mem_of_getElem? hk
  obtain ⟨vs0, h0, _, _⟩ := ok.g.objs k a _ hk hm
  have ke : hid (upd H a (.lst vs)) ρ = hid H ρ := by
    funext b
    by_cases h : b ∈ ρ
    · rw [hid_in h, hid_in h]
    · rw [hid_out h, hid_out h, upd_ne fun z => by rw [z] at h; exact h hD]
  have gr : ∀ b, H b ≠ none → upd H a (.lst vs) b ≠ none := fun b h => by unfold upd; split <;> simp [h]
  refine ⟨⟨⟨by simp [ok.g.len], ok.g.nd, fun b h => gr b (ok.g.live b h), fun i b m h1 h2 => ?_, tabs_upd ok.g.tabs h0 (fun ps z => nomatch z) (fun φ z => nomatch z)⟩, by simpa [ke] using ok.sl, fun b h => gr b (ok.dom b h), ok.new, ok.le⟩, ⟨.refl, by simpa [ke] using KeepX.refl _, gr⟩⟩
  have hkl : k < μ.length := (List.getElem?_eq_some_iff.mp hm).1
  by_cases hi : i = k
  · subst hi
    rw [List.getElem?_set_self hkl] at h2
    cases h2
    rw [hk] at h1; cases h1
    exact ⟨vs, upd_same, l, by simpa [ke] using r⟩
  · rw [List.getElem?_set_ne (Ne.symm hi)] at h2
    have hb : b ≠ a := fun z => by
      subst z
      have e1 := (List.getElem?_eq_some_iff.mp h1)
      have e2 := (List.getElem?_eq_some_iff.mp hk)
      exact hi ((List.getElem_inj ok.g.nd).mp (e1.2.trans e2.2.symm))
    have := ok.g.objs i b m h1 h2
    refine MOk.keep ?_ (upd_ne hb) this
    simpa [ke] using Keep.refl _
theorem comp_imp {own : List (Str × Nat)} {src : LF} {g : TG} {is : List Nat} {tgf : TgF} {tf : TF} {f : EF} (gk : GOk c g is tgf) (hsub : ∀ i, i ∈ is → i ∈ own.map (·.2)) (σ : St) (H : Hp) (Q : VK) (q : tD c W (eComp src tgf tf f (own.map (·.2))) σ H Q) :
    tLc (tL c W src) g (tT c Wn tf) (tD c Wn f) (own.map (·.2)) σ H Q := by
  obtain ⟨ρ, s, μ, k, p⟩ := q
  refine ⟨ρ, s, μ, k, ?_⟩
  dsimp only [eComp] at p
  cases e : src s μ with
  | exc C μ1 => rw [e] at p; exact p
  | bad => rw [e] at p; exact p
  | ok ds μ1 =>
    rw [e] at p
    intro J H1 ρ1 G st1 ok1 g1 S a ha
    generalize hvs : own.map (·.2) = vs at p hsub ⊢
    have hl1 : μ1.length = ρ1.length := ok1.g.len.symm
    have fr := ok1.fresh ha
    have okA := ok1.alloc (o := .lst []) ha
    have ok2 := okA.join fr.1 (by rw [upd_same]; simp) fr.2 (m := .lst []) ⟨[], upd_same, Nat.zero_le _, .nil⟩
    have st2 : StepX ρ1 H1 [] (ρ1 ++ [a]) (upd H1 a (.lst [])) := StepX.join (StepX.allocX ha)
    have ok3 : Ok c (ρ1 ++ [a]) [] (wipeS s vs) (μ1 ++ [.lst []]) (L2.wipe σ vs) (upd H1 a (.lst [])) := ⟨ok2.g, ok2.sl.wipe vs, ok2.dom, ok2.new, ok2.le⟩
    have ak : (ρ1 ++ [a])[μ1.length]? = some a := by rw [hl1, List.getElem?_append_right (Nat.le_refl _)]; simp
    refine ⟨fun i m H => i + m = ds.length ∧ ∃ ρ μ, Ok c ρ [] (wipeS s vs) μ (L2.wipe σ vs) H ∧ StepX ρ1 H1 [] ρ H ∧ Ext (ρ1 ++ [a]) ρ ∧ G ρ H ∧ Post c W ρ1 H1 s σ Q (compL tgf tf f (wipeS s vs) μ1.length (ds.drop i) μ),
      ⟨ds.length, by omega, _, _, ok3, st2, .refl, S.stay _ _ _ _ _ g1 st2, by rw [List.drop_zero]; exact Post.from st1 p⟩, ?_⟩
    rintro i m H5 ⟨him, ρ5, μ5, ok5, st5, ex5, g5, p5⟩
    have ak5 := ex5.get ak
    by_cases hm : m = 0
    · have hi : i = ds.length := by omega
      left
      subst hi
      rw [List.drop_length] at p5
      refine ⟨S.stop _ _ g5, ?_⟩
      unfold compL at p5
      obtain ⟨mo, h2, h3⟩ := mu_of ok5.g ak5
      rw [h2] at p5
      cases mo with
      | dct _ => exact p5.elim
      | ins _ _ => exact p5.elim
      | gone => exact p5.elim
      | lst acc =>
        obtain ⟨t5, rfl⟩ := ex5
        obtain ⟨vs5, q1, q2, q3⟩ := h3
        have e5 : ρ1 ++ [a] ++ t5 = ρ1 ++ ([a] ++ t5) := List.append_assoc _ _ _
        have g5' := ok5.g
        rw [e5] at g5' q3 st5
        have kp1 : KeepX (hid H1 ρ1) (hid H5 ([a] ++ ρ1)) := st5.keepX.trans (.sub fun b hb => by
          simp at hb ⊢
          rcases hb with rfl | hb <;> simp [*])
        refine p5 (.ref a) H5 ρ1 ⟨.refl, kp1, st5.grow⟩ ⟨a, vs5, rfl, q1, fr.1, fr.2, q2, q3.keep (.sub fun b hb => ?_), ⟨?_, ?_, fun b hb => st5.grow b (ok1.dom b hb), ok1.new, ok1.le⟩⟩
        · simp at hb ⊢
          rcases hb with rfl | hb <;> simp [*]
        · rw [hl1]
          exact g5'.cut (fun b hb => .inr (by simp at hb; subst hb; simp))
        · exact ok1.sl.keep .refl (by simpa using kp1.keep)
    · have hi : i < ds.length := by omega
      right
      refine ⟨S.go _ _ _ g5 hi, fun H => ∃ ρ μ, Ok c ρ [] (wipeS s vs) μ (L2.wipe σ vs) H ∧ StepX ρ1 H1 [] ρ H ∧ Ext (ρ1 ++ [a]) ρ ∧ G ρ H ∧ Post c W ρ1 H1 s σ Q (compL tgf tf f (wipeS s vs) μ1.length (ds.drop (i + 1)) μ), fun H' h => ⟨m - 1, by omega, by omega, h⟩, fun x H6 hy => ?_⟩
      obtain ⟨st6, ok6, r6⟩ := S.yld _ _ _ _ _ _ _ _ _ ok5 g5 (List.getElem?_eq_getElem hi) hy
      have g6 := S.stay _ _ _ _ _ g5 st6
      rw [List.drop_eq_getElem_cons hi] at p5
      unfold compL at p5
      cases e1 : tgf ds[i] (wipeS s vs) with
      | none => rw [e1] at p5; exact p5.elim
      | some s7 =>
        rw [e1] at p5
        dsimp only at p5
        refine gk.ok ρ5 [] _ s7 μ5 (L2.wipe σ vs) H6 ds[i] x _ ok6 (by simpa using r6) e1 fun σ7 ok7 w7 => ⟨?_, ρ5, s7, μ5, ok7, ?_⟩
        · rw [w7 vs hsub, wipe_idem σ vs vs fun _ h => h]
        cases e2 : tf s7 μ5 with
        | exc C μ7 => rw [e2] at p5; exact p5.elim
        | bad => rw [e2] at p5; exact p5.elim
        | ok b μ7 =>
          rw [e2] at p5
          intro H7 ρ7 st7 ok7'
          dsimp only at p5
          cases b with
          | false => exact ⟨ρ7, μ7, ok6.back st7 ok7', (st5.trans st6).trans st7, ex5.trans st7.ext, S.stay _ _ _ _ _ g6 st7, p5⟩
          | true =>
            rw [if_pos rfl] at p5 ⊢
            refine ⟨ρ7, s7, μ7, ok7', ?_⟩
            cases e3 : f s7 μ7 with
            | exc C μ8 => rw [e3] at p5; exact p5.elim
            | bad => rw [e3] at p5; exact p5.elim
            | ok r8 μ8 =>
              rw [e3] at p5
              intro v8 H8 ρ8 st8 rep8
              have ex8 : Ext (ρ1 ++ [a]) ρ8 := (ex5.trans st7.ext).trans st8.ext
              have ak8 := ex8.get ak
              dsimp only at p5
              cases e4 : dataOf r8 with
              | none => rw [e4] at p5; exact p5.elim
              | some d8 =>
                obtain ⟨mo, h2, h3⟩ := mu_of rep8.ok.g ak8
                rw [e4, h2] at p5
                cases mo with
                | dct _ => exact p5.elim
                | ins _ _ => exact p5.elim
                | gone => exact p5.elim
                | lst acc =>
                  dsimp only at p5
                  split at p5
                  · rename_i hlt
                    obtain ⟨vs8, q1, q2, q3⟩ := h3
                    have q3 : Reps c.K (hid H8 ρ8) acc vs8 := by simpa using q3
                    have l8 := q3.length
                    have okb := (ok6.back (st7.trans st8.weak) rep8.ok)
                    obtain ⟨okc, stc⟩ := okb.putL ak8 h2 (q3.snoc (dataOf_tmp rep8.tmp e4)) (by rw [List.length_append, List.length_singleton, l8]; exact hlt)
                    have s9 := (st7.trans st8.weak).trans stc
                    exact ⟨vs8, q1, by rw [l8]; exact hlt, ρ8, _, okc, (st5.trans st6).trans s9, ex8, S.stay _ _ _ _ _ g6 s9, p5⟩
                  · exact p5.elim
theorem de_comp {elt tg iter : Expr} {ifs : List Expr} {scope : Scope} {own : List (Str × Nat)} {pos : Pos} {src : LF} {g : TG} {is : List Nat} {tgf : TgF} {t : TF} {f : EF} (hc : X.calm = true) (hN : X.N.Nodup) (hi : PI X tg iter (tL c W src)) (ok : BlkOk X.N X.env.scope scope own)
    (gk : GOk c g is tgf) (hsub : ∀ i, i ∈ is → i ∈ own.map (·.2))
    (hg : ∀ (s : Shared) (H : Hp) (C : Addr) (cl : List (Str × Addr)) (fp : List Addr), PG (X.blk s H scope (compEnvC scope cl C X.env) fp) tg g) (ht : ∀ (s : Shared) (H : Hp) (C : Addr) (cl : List (Str × Addr)) (fp : List Addr), PTs (X.blk s H scope (compEnvC scope cl C X.env) fp) ifs (tT c Wn t))
    (he : ∀ (s : Shared) (H : Hp) (C : Addr) (cl : List (Str × Addr)) (fp : List Addr), PE (X.blk s H scope (compEnvC scope cl C X.env) fp) elt (tD c Wn f)) (hs : ∀ x, foldedSetIterable iter X.env x = pure x := by intro _; rfl) :
    PE X (.ListComp elt [⟨tg, iter, ifs, 0⟩] scope pos) (tD c W (eComp src tgf t f (own.map (·.2)))) := (pe_lc hc hN hi ok hg ht he hs).imp (comp_imp gk hsub)
theorem ds_setLc {i : Nat} {y : Str} {py : Pos} {elt tg iter : Expr} {ifs : List Expr} {scope : Scope} {own : List (Str × Nat)} {pos spos : Pos} {src : LF} {g : TG} {is : List Nat} {tgf : TgF} {t : TF} {f : EF} (hc : X.calm = true) (hN : X.N.Nodup) (hy : X.N[i]? = some y) (hyl : X.env.scope.names.lookup y = some .local)
    (hi : PI X tg iter (tL c W src)) (ok : BlkOk X.N X.env.scope scope own)
    (gk : GOk c g is tgf) (hsub : ∀ i, i ∈ is → i ∈ own.map (·.2))
    (hg : ∀ (s : Shared) (H : Hp) (C : Addr) (cl : List (Str × Addr)) (fp : List Addr), PG (X.blk s H scope (compEnvC scope cl C X.env) fp) tg g) (ht : ∀ (s : Shared) (H : Hp) (C : Addr) (cl : List (Str × Addr)) (fp : List Addr), PTs (X.blk s H scope (compEnvC scope cl C X.env) fp) ifs (tT c Wn t))
    (he : ∀ (s : Shared) (H : Hp) (C : Addr) (cl : List (Str × Addr)) (fp : List Addr), PE (X.blk s H scope (compEnvC scope cl C X.env) fp) elt (tD c Wn f)) (hsw : swapsWith (.ListComp elt [⟨tg, iter, ifs, 0⟩] scope pos) (some (.Name y py)) spos.line X.env = pure true := by rfl) (hs : ∀ x, foldedSetIterable iter X.env x = pure x := by intro _; rfl) :
    PS X (.Assign [.Name y py] (.ListComp elt [⟨tg, iter, ifs, 0⟩] scope pos) spos) (tS c W (sSet i (eComp src tgf t f (own.map (·.2))))) :=
  ds_setG ((ps_setLc hc hN hy hyl hsw hi ok hg ht he hs).imp fun D σ H q => comp_imp gk hsub σ H _ q)
theorem ds_newLc {i : Nat} {y : Str} {py : Pos} {elt tg iter : Expr} {ifs : List Expr} {scope : Scope} {own : List (Str × Nat)} {pos spos : Pos} {src : LF} {g : TG} {is : List Nat} {tgf : TgF} {t : TF} {f : EF} (hc : X.calm = true) (hN : X.N.Nodup) (hy : X.N[i]? = some y) (hyl : X.env.scope.names.lookup y = some .local)
    (hi : PI X tg iter (tL c W src)) (ok : BlkOk X.N X.env.scope scope own)
    (gk : GOk c g is tgf) (hsub : ∀ i, i ∈ is → i ∈ own.map (·.2))
    (hg : ∀ (s : Shared) (H : Hp) (C : Addr) (cl : List (Str × Addr)) (fp : List Addr), PG (X.blk s H scope (compEnvC scope cl C X.env) fp) tg g) (ht : ∀ (s : Shared) (H : Hp) (C : Addr) (cl : List (Str × Addr)) (fp : List Addr), PTs (X.blk s H scope (compEnvC scope cl C X.env) fp) ifs (tT c Wn t))
    (he : ∀ (s : Shared) (H : Hp) (C : Addr) (cl : List (Str × Addr)) (fp : List Addr), PE (X.blk s H scope (compEnvC scope cl C X.env) fp) elt (tD c Wn f)) (hsw : swapsWith (.ListComp elt [⟨tg, iter, ifs, 0⟩] scope pos) (some (.Name y py)) spos.line X.env = pure true := by rfl) (hs : ∀ x, foldedSetIterable iter X.env x = pure x := by intro _; rfl) :
    PS X (.Assign [.Name y py] (.ListComp elt [⟨tg, iter, ifs, 0⟩] scope pos) spos) (tS c W (sNew i (eComp src tgf t f (own.map (·.2))))) :=
  ds_newG ((ps_setLc hc hN hy hyl hsw hi ok hg ht he hs).imp fun D σ H q => comp_imp gk hsub σ H _ q)
end
end Dl

namespace Dl
open PySem PySem.Spec PyProof.Rows L2
/-! ### objects that change: append, items stored -/
def isL : R → Mu → Bool
  | .obj j, μ => match μ[j]? with
    | some (.lst _) => true
    | _ => false
  | _, _ => false
def appR (x y : R) (μ : Mu) : Res := match x, dataOf y with
  | .obj j, some d => match μ[j]? with
    | some (.lst acc) => if acc.length < sizeLine then .ok (.val .non) (μ.set j (.lst (acc ++ [d]))) else .bad
    | _ => .bad
  | _, _ => .bad
def eApp (fo fe : EF) : EF := fun s μ => (fo s μ).bind fun x μ1 => if isL x μ1 = true then (fe s μ1).bind fun y μ2 => appR x y μ2 else .bad
def putKD (kvs : List (Key × D)) (k : Key) (v : D) : List (Key × D) := if (kvs.any fun kv => decide (kv.1 = k)) = true then kvs.map (fun kv => if kv.1 = k then (kv.1, v) else kv) else kvs ++ [(k, v)]
def keyOf : D → Option Key
  | .int i => some (.inl i)
  | .str x => some (.inr x)
  | _ => none
/-- xs[i] = v: the value, the object, the place -/
def sPutL (fv fo fi : EF) : SF := fun s μ => (fv s μ).bindS s fun y μ1 => (fo s μ1).bindS s fun x μ2 => (fi s μ2).bindS s fun i μ3 => match dataOf y, x, i with
  | some d, .obj j, .val (.int k) => match μ3[j]? with
    | some (.lst acc) => match L2.ixN acc.length k with
      | some n => .nx s (μ3.set j (.lst (acc.set n d)))
      | none => .bad
    | _ => .bad
  | _, _, _ => .bad
/-- d[k] = v -/
def sPutD (fv fo fi : EF) : SF := fun s μ => (fv s μ).bindS s fun y μ1 => (fo s μ1).bindS s fun x μ2 => (fi s μ2).bindS s fun i μ3 => match dataOf y, x, deref μ3 i with
  | some d, .obj j, some dk => match keyOf dk, μ3[j]? with
    | some k, some (.dct kvs) => if kvs.length < sizeLine then .nx s (μ3.set j (.dct (putKD kvs k d))) else .bad
    | _, _ => .bad
  | _, _, _ => .bad
section
variable {c : Cc} {W : WX} {X : Cx} {o e i value : Expr} {fo fe fi fv : EF} {pos pos' apos cpos : Pos}
theorem de_app (ho : PE X o (tD c W fo)) (he : PE X e (tD c W fe)) (hK : c.K = X.K)
    (hbase : attributeBase o "append" X.env (eval o X.env) = eval o X.env := by rfl)
    (hfew : ((backTo cpos (starEach (e :: []) X.env)).all (fun x => !x.1) && (backToKw cpos (keywordEach [] X.env)).all (fun x => x.1.isSome)
      && decide ((e :: ([] : List Expr)).length + ([] : List Keyword).length + (if ([] : List Keyword).isEmpty then 0 else 1) < 30)) = true := by rfl)
    (hline : (apos.endLine == cpos.line) = true := by rfl) (hs : starEach (e :: []) X.env = (false, eval e X.env) :: starEach [] X.env := by rfl) (hplain : (backTo cpos (starEach [] X.env)).any (·.1) = false := by rfl) :
    PE X (.Call (.Attribute o "append" apos) [e] [] cpos) (tD c W (eApp fo fe)) :=
  (pe_bm PySem.F.plainAttrs_list PySem.F.slot_list_append PySem.F.type_list_append mt_append ho (pa_cons he pa_nil hs) hbase hfew hline hs hplain).imp fun σ H Q q => by
    refine tD_bind (g := fun s x μ1 => if isL x μ1 = true then (fe s μ1).bind fun y μ2 => appR x y μ2 else .bad) (k := fun σ x H1 Q => tyV X.K "list" x H1 ∧ tCons (tD c W fe) tNil σ H1 fun xs H2 => rAppend x xs H2 Q) (fun ρ s μ σ H r1 v1 Q rep p => ?_) σ H Q q
    split at p
    case isFalse => exact p.elim
    case isTrue hl =>
      cases r1 with
      | obj j =>
        dsimp only [isL] at hl
        split at hl
        · rename_i acc0 hm
          obtain ⟨⟨a, ha, rfl⟩, ok⟩ := rep
          obtain ⟨vs0, h0, l0, r0⟩ := ok.g.objs j a _ ha hm
          refine ⟨.inl ⟨rfl, vs0, .of h0⟩, ρ, s, μ, ok, ?_⟩
          cases e1 : fe s μ with
          | exc C μ1 => rw [e1] at p; exact p
          | bad => rw [e1] at p; exact p
          | ok r2 μ2 =>
            rw [e1] at p
            intro v2 H2 ρ2 st rep2
            have p2 := Post.from st.weak p
            dsimp only [bind_ok, appR] at p2
            cases e2 : dataOf r2 with
            | none => rw [e2] at p2; exact p2.elim
            | some d =>
              obtain ⟨m, hm2, hk2⟩ := mu_of rep2.ok.g (st.ext.get ha)
              rw [e2] at p2; dsimp only at p2; rw [hm2] at p2
              cases m with
              | dct _ => exact p2.elim
              | ins _ _ => exact p2.elim
              | gone => exact p2.elim
              | lst acc =>
                dsimp only at p2
                split at p2
                · rename_i hlt
                  obtain ⟨vs, q1, q2, q3⟩ := hk2
                  have q3 : Reps c.K (hid H2 ρ2) acc vs := by simpa using q3
                  obtain ⟨okc, stc⟩ := rep2.ok.putL (st.ext.get ha) hm2 (q3.snoc (dataOf_tmp rep2.tmp e2)) (by rw [List.length_append, List.length_singleton, q3.length]; exact hlt)
                  exact ⟨a, vs, v2, rfl, rfl, q1, by rw [q3.length]; exact hlt, p2 .non _ ρ2 stc ⟨.non, okc⟩⟩
                · exact p2.elim
        · cases hl
      | _ => cases hl
theorem ds_putL (ho : PE X o (tD c W fo)) (hi : PE X i (tD c W fi)) (hv : PE X value (tD c W fv))
    (ha : ∀ v, assign (.Subscript o i pos') X.env v = (do
      let ov ← holding [v] (eval o X.env)
      let iv ← holding [v, ov] (eval i X.env)
      standAt pos'
      holding [v, ov, iv] (setItem ov iv v)
      release [v, ov, iv] []) := by intro _; rfl) (hs : swapsWithSole [.Subscript o i pos'] value pos.line X.env = pure false := by rfl) (hw : swappedStores [.Subscript o i pos'] value X.env = pure none := by rfl)
    (h1 : (assignEach [.Subscript o i pos'] X.env).map (·.2) = [assign (.Subscript o i pos') X.env] := by rfl) : PS X (.Assign [.Subscript o i pos'] value pos) (tS c W (sPutL fv fo fi)) :=
  (ps_asg hv (pg_sub ho hi set_list ha) hs hw h1).imp fun D σ H q => by
    refine tD_bindS (g := fun s y μ1 => (fo s μ1).bindS s fun x μ2 => (fi s μ2).bindS s fun i μ3 => match dataOf y, x, i with
      | some d, .obj j, .val (.int k) => match μ3[j]? with
        | some (.lst acc) => match L2.ixN acc.length k with
          | some n => .nx s (μ3.set j (.lst (acc.set n d)))
          | none => .bad
        | _ => .bad
      | _, _, _ => .bad) (k := fun y σ H1 => gSub (tD c W fo) (tD c W fi) rSetL y σ H1 D.nx) (fun ρ s μ σ H r1 v1 rep p => ?_) σ H q
    refine ⟨ρ, s, μ, rep.ok, ?_⟩
    cases e1 : fo s μ with
    | exc C μ1 => rw [e1] at p; exact fun H' ρ' st ok' => p σ H' ρ' st ok'
    | bad => rw [e1] at p; exact p
    | ok r2 μ2 =>
      rw [e1] at p
      intro v2 H2 ρ2 st rep2
      have p2 := PostS.from st.weak p
      refine ⟨ρ2, s, μ2, rep2.ok, ?_⟩
      dsimp only [bindS_ok] at p2
      cases e2 : fi s μ2 with
      | exc C μ1 => rw [e2] at p2; exact fun H' ρ' st ok' => p2 σ H' ρ' st ok'
      | bad => rw [e2] at p2; exact p2
      | ok r3 μ3 =>
        rw [e2] at p2
        intro v3 H3 ρ3 st3 rep3
        have p3 := PostS.from st3.weak p2
        dsimp only [bindS_ok] at p3
        have t1 := rep.tmp.keep (st.ext.trans st3.ext) (st.weak.trans st3.weak).keep
        have t2 := rep2.tmp.keep st3.ext st3.weak.keep
        cases e4 : dataOf r1 with
        | none => rw [e4] at p3; exact p3.elim
        | some d =>
          rw [e4] at p3
          split at p3
          · rename_i d' j k' heq
            cases heq
            obtain ⟨a, ha2, rfl⟩ := t2
            obtain ⟨m, hm, hk⟩ := mu_of rep3.ok.g ha2
            rw [hm] at p3
            cases m with
            | dct _ => exact p3.elim
            | ins _ _ => exact p3.elim
            | gone => exact p3.elim
            | lst acc =>
              dsimp only at p3
              split at p3
              · rename_i n hn
                obtain ⟨vs, q1, q2, q3⟩ := hk
                have q3 : Reps c.K (hid H3 ρ3) acc vs := by simpa using q3
                obtain ⟨okc, stc⟩ := rep3.ok.putL ha2 hm (Reps.set (dataOf_tmp t1 e4) n q3) (by rw [List.length_set]; exact q2)
                refine ⟨a, vs, _, n, rfl, int_of (μ := μ3) rep3.tmp rfl, q1, by rw [q3.length]; exact hn, p3 σ _ ρ3 stc okc⟩
              · exact p3.elim
          · exact p3.elim
/-! ### raise -/
def sRaise (C : Addr) : SF := fun s μ => .exc C s μ
theorem ds_raise {C : Addr} {t : L2.St → Hp → XK → Prop} (hc : X.calm = true) (tk : L2N.Takes X W) (he : L2N.PMk X e t) (ht : ∀ σ H (Q : XK), Q (.ref C) none H → t σ H Q) : PS X (.Raise (some e) none pos) (tS c W (sRaise C)) :=
  (L2N.ps_raise hc tk he).imp fun D σ H ⟨ρ, s, μ, ok, p⟩ => ht σ H _ (p σ H ρ .refl ok)
/-! ### sep.join(texts) -/
def joinD : D → D → Mu → Res
  | .str a, .lst ds, μ => match asStrs ds with
    | some ys => if (ys.map (·.length)).sum + ys.length * a.length ≤ 16777216 then .ok (.val (.str (Txt.join a ys))) μ else .bad
    | none => .bad
  | _, _, _ => .bad
def eJoin (fa fb : EF) : EF := fun s μ => (fa s μ).bind fun x μ1 => match x with
  | .val (.str a) => (fb s μ1).bind fun y μ2 => two joinD x y μ2
  | _ => .bad
theorem de_join (ho : PE X o (tD c W fo)) (he : PE X e (tD c W fe)) (hK : c.K = X.K) (na : starEach [e] X.env = [(false, eval e X.env)] := by rfl) (hb : attributeBase o "join" X.env (eval o X.env) = eval o X.env := by rfl) (hl : (apos.endLine == pos.line) = true := by rfl) :
    PE X (.Call (.Attribute o "join" apos) [e] [] pos) (tD c W (eJoin fo fe)) := (pe_join ho he na hb hl).imp fun σ H Q q => by
  refine tD_bind (g := fun s x μ1 => match x with
    | .val (.str a) => (fe s μ1).bind fun y μ2 => two joinD x y μ2
    | _ => .bad) (k := fun σ x H1 Q => (∃ a, x = .str a) ∧ tD c W fe σ H1 fun y H2 => ∃ a p ys, x = .str a ∧ [y] = [V.ref p] ∧ (SqL X.K H2 p (ys.map V.str) ∨ SqT X.K H2 p (ys.map V.str)) ∧ (ys.map fun x => x.length).sum + ys.length * a.length ≤ 16777216 ∧ Q (.str (Txt.join a ys)) H2) (fun ρ s μ σ H r1 v1 Q rep p => ?_) σ H Q q
  split at p
  · rename_i a
    have ev : v1 = .str a := str_of (μ := μ) rep.tmp rfl
    subst ev
    refine ⟨⟨a, rfl⟩, ρ, s, μ, rep.ok, ?_⟩
    cases e1 : fe s μ with
    | exc C μ1 => rw [e1] at p; exact p
    | bad => rw [e1] at p; exact p
    | ok r2 μ2 =>
      rw [e1] at p
      intro v2 H2 ρ2 st rep2
      have p2 := Post.from st.weak p
      dsimp only [bind_ok] at p2
      obtain ⟨d1, d2, h1, h2, p3⟩ := two_post p2
      cases h1
      unfold joinD at p3
      split at p3
      · rename_i heq
        cases heq
        split at p3
        · rename_i ys hy
          split at p3
          · rename_i hlt
            obtain ⟨a1, vs, rfl, q1, l1, q2⟩ := lst_of rep2.ok.g rep2.tmp h2
            rw [strs_ok q2 hy] at q1
            exact ⟨a, a1, ys, rfl, rfl, .inl (.of q1), hlt, p3.val rep2.ok (.str _)⟩
          · exact p3.elim
        · exact p3.elim
      · exact p3.elim
  · exact p.elim
end
end Dl

namespace Dl
open PySem PySem.Spec PyProof.Rows L2
/-! ### sorted(data) -/
def dEnc (d : D) : PyData := (toPy d).getD .none
def rowB : PyData → Bool
  | .tuple (_ :: _) => true
  | _ => false
def flatB : PyData → Bool
  | .tuple _ => false
  | .none => false
  | _ => true
/-- can be sorted -/
def sortOk (ds : List D) : Bool := (ds.all fun d => (toPy d).isSome && decide ((dEnc d).depth ≤ 32)) && (ds.all fun d => ds.all fun e => PySem.W.alike (dEnc d) (dEnc e)) && ((ds.all fun d => rowB (dEnc d)) || ds.all fun d => flatB (dEnc d))
def leS : D → D → Bool := PySem.W.dataLe false dEnc
def sortedD : D → Mu → Res
  | .lst ds, μ => if sortOk ds = true then .ok (.newL (ds.mergeSort leS)) μ else .bad
  | _, _ => .bad
def zipLe : D × V → D × V → Bool := PySem.W.dataLe false fun b => dEnc b.1
def rSortD (K : PySem.W.Frag) : List V → Hp → VK → Prop := fun xs H Q => ∃ a ds vs, xs = [V.ref a] ∧ SqL K H a vs ∧ Reps K H ds vs ∧ sortOk ds = true ∧ ∀ p, H p = none → Q (.ref p) (upd H p (.lst (((ds.zip vs).mergeSort zipLe).map (·.2))))
theorem Reps.zipR {K : PySem.W.Frag} {H : Hp} : ∀ {ds : List D} {vs : List V}, Reps K H ds vs → ∀ b ∈ ds.zip vs, Rep K H b.1 b.2
  | _, _, .nil, b, h => by simp at h
  | _, _, .cons r t, b, h => by
    rw [List.zip_cons_cons] at h
    rcases List.mem_cons.mp h with h | h
    · subst h; exact r
    · exact Reps.zipR t b h
theorem Reps.ofZip {K : PySem.W.Frag} {H : Hp} : ∀ {zs : List (D × V)}, (∀ b ∈ zs, Rep K H b.1 b.2) → Reps K H (zs.map (·.1)) (zs.map (·.2))
  | [], _ => .nil
  | b :: zs, h => .cons (h b List.mem_cons_self) (Reps.ofZip fun c hc => h c (List.mem_cons_of_mem _ hc))
theorem zip_fst {α β : Type} : ∀ {xs : List α} {ys : List β}, ys.length = xs.length → (xs.zip ys).map (·.1) = xs
  | [], _, _ => by simp
  | x :: xs, [], h => by simp at h
  | x :: xs, y :: ys, h => by simp only [List.zip_cons_cons, List.map_cons]; rw [zip_fst (by simpa using h)]
theorem zip_snd {α β : Type} : ∀ {xs : List α} {ys : List β}, ys.length = xs.length → (xs.zip ys).map (·.2) = ys
  | [], [], _ => by simp
  | [], y :: ys, h => by simp at h
  | x :: xs, [], h => by simp at h
  | x :: xs, y :: ys, h => by simp only [List.zip_cons_cons, List.map_cons]; rw [zip_snd (by simpa using h)]
theorem each_vals {zs : List (D × V)} : ∀ {out : List Value}, PySem.W.EachIs (fun v (b : D × V) => RelV b.2 v) out zs → Vals (zs.map (·.2)) out := by
  induction zs with
  | nil => intro out h; cases h; exact .nil
  | cons b zs ih => intro out h; cases h with | cons h1 h2 => exact .cons h1 (ih h2)
theorem vals_each : ∀ {ds : List D} {vs : List V} {us : List Value}, vs.length = ds.length → Vals vs us → PySem.W.EachIs (fun v (b : D × V) => RelV b.2 v) us (ds.zip vs)
  | [], [], _, _, .nil => .nil
  | [], v :: vs, _, h, _ => by simp at h
  | d :: ds, [], _, h, _ => by simp at h
  | d :: ds, v :: vs, _, h, .cons r rr => .cons r (vals_each (by simpa using h) rr)
section
variable {X : Cx} {pins : List (Addr × Obj)} {σ : St} {H : Hp} {s : Shared}
theorem each_reads (I : Inv X pins σ H s) : ∀ {ds : List D} {vs : List V} {us : List Value}, Reps X.K H ds vs → (∀ d ∈ ds, (toPy d).isSome = true) → Vals vs us → PySem.W.EachIs (fun v (b : D × V) => ∃ as, Reads s.heap v (dEnc b.1) as) us (ds.zip vs)
  | _, _, _, .nil, _, .nil => .nil
  | d :: ds, v :: vs, _, .cons r t, h, .cons q qq => by
    refine .cons ?_ (each_reads I t (fun e he => h e (List.mem_cons_of_mem _ he)) qq)
    have h1 := h d List.mem_cons_self
    cases e : toPy d with
    | none => rw [e] at h1; cases h1
    | some p =>
      obtain ⟨k, _⟩ := dp_of r e
      obtain ⟨as, z⟩ := Dp.reads I p _ _ k q
      refine ⟨as, ?_⟩
      show Reads s.heap _ (dEnc d) as
      unfold dEnc
      rw [e]
      exact z
theorem cr_sortD (hu : X.A.units + 64 < cLine) : CallR X (.builtin "sorted") (rSortD X.K) := by
  intro pins s σ H xs us Q I r h
  obtain ⟨a, ds, vs, rfl, hs, hr, hok, q⟩ := h
  obtain ⟨its, rv, hl, hz⟩ := I.list hs
  rw [Vals.ref1 r]
  have hlen := hr.length
  unfold sortOk at hok
  rw [Bool.and_eq_true, Bool.and_eq_true] at hok
  obtain ⟨⟨h1, h2⟩, h3⟩ := hok
  have h1' : ∀ d ∈ ds, (toPy d).isSome = true ∧ (dEnc d).depth ≤ 32 := fun d hd => by
    have := List.all_eq_true.mp h1 d hd
    rw [Bool.and_eq_true, decide_eq_true_eq] at this
    exact this
  have em : (ds.zip vs).map (fun b => dEnc b.1) = ds.map dEnc := by
    rw [show (fun b : D × V => dEnc b.1) = dEnc ∘ Prod.fst from rfl, ← List.map_map, show (ds.zip vs).map Prod.fst = ds from zip_fst hlen]
  have mem : ∀ b ∈ ds.zip vs, b.1 ∈ ds := fun b hb => by
    have := List.mem_map_of_mem (f := Prod.fst) hb
    rwa [show (ds.zip vs).map Prod.fst = ds from zip_fst hlen] at this
  have hlz : (ds.zip vs).length = vs.length := by rw [List.length_zip, hlen, Nat.min_self]
  refine PySem.W.sorted_data (R := fun v (b : D × V) => RelV b.2 v) (enc := fun b => dEnc b.1) (bs := ds.zip vs) hl.isList (vals_each hlen rv) (each_reads I hr (fun d hd => (h1' d hd).1) rv) ?_ ?_ (by rw [hlz]; exact hz) (fun b hb => by have := (h1' _ (mem b hb)).2; omega) fun out ho eo => ?_
  · rw [em]
    intro d hd d' hd'
    obtain ⟨x, hx, rfl⟩ := List.mem_map.mp hd
    obtain ⟨y, hy, rfl⟩ := List.mem_map.mp hd'
    exact List.all_eq_true.mp (List.all_eq_true.mp h2 x hx) y hy
  · rw [em]
    rcases Bool.or_eq_true _ _ |>.mp h3 with h | h
    · refine .inl fun d hd => ?_
      obtain ⟨x, hx, rfl⟩ := List.mem_map.mp hd
      have := List.all_eq_true.mp h x hx
      unfold rowB at this
      split at this
      · rename_i e; exact ⟨_, _, e⟩
      · cases this
    · refine .inr fun d hd => ?_
      obtain ⟨x, hx, rfl⟩ := List.mem_map.mp hd
      have := List.all_eq_true.mp h x hx
      unfold flatB at this
      split at this
      · cases this
      · cases this
      · rename_i n1 n2
        exact ⟨n2, fun xs e => n1 xs e⟩
  · obtain ⟨ep, he'⟩ := PyProof.Rows.sortedAll_at s.heap its out.toArray
    have rr := each_vals eo
    refine ⟨.ref _, upd H (s.heap.objs.size + 1) (.lst (((ds.zip vs).mergeSort zipLe).map (·.2))), I.laid (t' := s.toks) (fun _ _ => PyProof.Rows.sortedAll_old) (Nat.le_succ _) ⟨?_, out, ep, rr, he'⟩, rfl, q _ (I.hok.fresh (Nat.le_succ _))⟩
    rw [List.length_map, List.length_mergeSort, hlz]
    exact hz
end
section
variable {c : Cc} {W : WX} {X : Cx}
theorem c_sorted : CallD c W (on1 sortedD) (rSortD c.K) := (cd1 (r := fun x H Q => ∃ a ds vs, x = V.ref a ∧ SqL c.K H a vs ∧ Reps c.K H ds vs ∧ sortOk ds = true ∧ ∀ p, H p = none → Q (.ref p) (upd H p (.lst (((ds.zip vs).mergeSort zipLe).map (·.2))))) fun ρ s μ σ H x v d Q ok t e p => by
  cases d with
  | lst ds =>
    dsimp only [sortedD] at p
    split at p
    · rename_i hs
      obtain ⟨a, vs, rfl, h1, l1, r1⟩ := lst_of ok.g t e
      have hlen := r1.length
      have kp : Keep (hid H ρ) H := .of fun b o e => (hid_some.mp e).2
      refine ⟨a, ds, vs, rfl, .of h1, r1.keep kp, hs, ?_⟩
      have hz := r1.zipR
      have key : Reps c.K (hid H ρ) (((ds.zip vs).mergeSort zipLe).map (·.1)) (((ds.zip vs).mergeSort zipLe).map (·.2)) := Reps.ofZip fun b hb => hz b (List.mem_mergeSort.mp hb)
      have e1 : ((ds.zip vs).mergeSort zipLe).map (·.1) = ds.mergeSort leS := by
        rw [List.map_mergeSort (r := zipLe) (s := leS) (f := (·.1)) (fun _ _ _ _ => rfl)]
        rw [zip_fst hlen]
      rw [e1] at key
      exact p.newL ok key (by rw [List.length_map, List.length_mergeSort, List.length_zip, hlen, Nat.min_self, ← hlen]; exact l1)
    · exact p.elim
  | _ => exact p.elim).imp fun vs H Q ⟨v, e, a, ds, us, h1, h2⟩ => ⟨a, ds, us, by rw [e, h1], h2⟩
/-! ### names of the module, minus, is None -/
theorem de_glob {x : Str} {v : V} {d : D} {u : Value} {pos : Pos} (hg : Gl X x) (hm : X.mg x = some u) (r : RelV v u) (hr : ∀ K H, Rep K H d v) (hd : (x == ("__debug__" : Str)) = false := by decide) : PE X (.Name x pos) (tD c W (eC d)) := de_c (pe_glob hg hm r hd) hr
def eNeg (f : EF) : EF := fun s μ => (f s μ).bind fun x μ1 => match x with
  | .val (.int i) => .ok (.val (.int (-i))) μ1
  | _ => .bad
theorem de_neg {a : Expr} {fa : EF} {pos : Pos} (ha : PE X a (tD c W fa)) : PE X (.UnaryOp .USub a pos) (tD c W (eNeg fa)) := (pe_un un_neg ha).imp fun σ H Q q =>
  tD_bind (g := fun s x μ1 => match x with | .val (.int i) => .ok (.val (.int (-i))) μ1 | _ => .bad) (k := fun σ x H1 Q => rU (fun i => .int (-i)) x H1 Q) (fun ρ s μ σ H r v Q rep p => by
    split at p
    · exact ⟨_, int_of (μ := μ) rep.tmp rfl, p.val rep.ok (.int _)⟩
    · exact p.elim) σ H Q q
/-- is None of a value -/
def isNonR : R → Bool
  | .val .non => true
  | _ => false
def eIsN (n : Bool) (f : EF) : EF := fun s μ => (f s μ).bind fun x μ1 => .ok (.val (.bl (isNonR x == n))) μ1
theorem isNon_of {K : PySem.W.Frag} {ρ : List Addr} {H : Hp} {r : R} {v : V} (t : Tmp K ρ H r v) : decide (v = .non) = isNonR r := by
  cases r with
  | val d => cases t <;> simp [isNonR]
  | obj i => obtain ⟨a, _, rfl⟩ := t; simp [isNonR]
  | newL xs => cases t; simp [isNonR]
  | newD xs => cases t; simp [isNonR]
theorem de_isN {a : Expr} {fa : EF} {i : Nat} {p2 pos : Pos} (ha : PE X a (tD c W fa)) (hm : behindInMarks .Is (.Constant .none i p2) = false := by rfl) : PE X (.Compare a [.Is] [.Constant .none i p2] pos) (tD c W (eIsN true fa)) :=
  (pe_cmpR op_isN ha pe_non hm).imp fun σ H Q q => tD_bind (g := fun s x μ1 => .ok (.val (.bl (isNonR x == true))) μ1) (k := fun σ x H1 Q => V.non = V.non ∧ Q (.bl (decide (x = .non))) H1) (fun ρ s μ σ H r v Q rep p => ⟨rfl, by
    rw [isNon_of rep.tmp, show isNonR r = (isNonR r == true) by cases isNonR r <;> rfl]
    exact p.val rep.ok (.bl _)⟩) σ H Q q
theorem de_notN {a : Expr} {fa : EF} {i : Nat} {p2 pos : Pos} (ha : PE X a (tD c W fa)) (hm : behindInMarks .IsNot (.Constant .none i p2) = false := by rfl) : PE X (.Compare a [.IsNot] [.Constant .none i p2] pos) (tD c W (eIsN false fa)) :=
  (pe_cmpR op_notN ha pe_non hm).imp fun σ H Q q => tD_bind (g := fun s x μ1 => .ok (.val (.bl (isNonR x == false))) μ1) (k := fun σ x H1 Q => V.non = V.non ∧ Q (.bl (!decide (x = .non))) H1) (fun ρ s μ σ H r v Q rep p => ⟨rfl, by
    rw [isNon_of rep.tmp, show (!isNonR r) = (isNonR r == false) by cases isNonR r <;> rfl]
    exact p.val rep.ok (.bl _)⟩) σ H Q q
theorem dt_isN {a : Expr} {fa : EF} {i : Nat} {p2 pos : Pos} (ha : PE X a (tD c W fa)) (hm : behindInMarks .Is (.Constant .none i p2) = false := by rfl) : PT X (.Compare a [.Is] [.Constant .none i p2] pos) (tT c W (tOf (eIsN true fa))) :=
  dt_of ((pt_cmpR op_isN ha pe_non hm).imp fun σ H Q q => tD_bind (g := fun s x μ1 => .ok (.val (.bl (isNonR x == true))) μ1) (k := fun σ x H1 Q => V.non = V.non ∧ Q (.bl (decide (x = .non))) H1) (fun ρ s μ σ H r v Q rep p => ⟨rfl, by
    rw [isNon_of rep.tmp, show isNonR r = (isNonR r == true) by cases isNonR r <;> rfl]
    exact p.val rep.ok (.bl _)⟩) σ H _ q)
theorem dt_notN {a : Expr} {fa : EF} {i : Nat} {p2 pos : Pos} (ha : PE X a (tD c W fa)) (hm : behindInMarks .IsNot (.Constant .none i p2) = false := by rfl) : PT X (.Compare a [.IsNot] [.Constant .none i p2] pos) (tT c W (tOf (eIsN false fa))) :=
  dt_of ((pt_cmpR op_notN ha pe_non hm).imp fun σ H Q q => tD_bind (g := fun s x μ1 => .ok (.val (.bl (isNonR x == false))) μ1) (k := fun σ x H1 Q => V.non = V.non ∧ Q (.bl (!decide (x = .non))) H1) (fun ρ s μ σ H r v Q rep p => ⟨rfl, by
    rw [isNon_of rep.tmp, show (!isNonR r) = (isNonR r == false) by cases isNonR r <;> rfl]
    exact p.val rep.ok (.bl _)⟩) σ H _ q)
/-! ### list(range(a, b)) -/
def lr2 : D → D → Mu → Res
  | .int a, .int b, μ => if rgOk a = true ∧ rgOk b = true ∧ (b - a).toNat ≤ 16777216 then .ok (.newL (rngD a (b - a).toNat)) μ else .bad
  | _, _, _ => .bad
theorem reps_rng {K : PySem.W.Frag} {H : Hp} (a : Int) (n : Nat) : Reps K H (rngD a n) ((List.range n).map fun i => V.int (a + (i : Nat))) := by
  unfold rngD
  generalize List.range n = l
  induction l with
  | nil => exact .nil
  | cons i l ih => exact .cons (.int _) ih
theorem de_lr2 {a b : Expr} {fa fb : EF} {p p2 pos pos2 : Pos} (hc : X.calm = true) (hg : Gl X "range") (hm : X.mg "range" = none) (hg2 : Gl X "list") (hm2 : X.mg "list" = none) (ha : PE X a (tD c W fa)) (hb : PE X b (tD c W fb)) (na : starEach [a, b] X.env = (false, eval a X.env) :: starEach [b] X.env := by rfl)
    (nb : starEach [b] X.env = (false, eval b X.env) :: starEach [] X.env := by rfl) (hp : (backTo pos (starEach [b] X.env)).any (·.1) = false := by rfl)
    (nc : starEach [.Call (.Name "range" p) [a, b] [] pos] X.env = (false, eval (.Call (.Name "range" p) [a, b] [] pos) X.env) :: starEach [] X.env := by rfl) :
    PE X (.Call (.Name "list" p2) [.Call (.Name "range" p) [a, b] [] pos] [] pos2) (tD c W (eBin lr2 fa fb)) := (pe_listRg hc hg2 hm2 (prg_2 hg hm ha hb na nb hp) nc).imp fun σ H Q q => by
  refine tD_two (g := fun x y μ => two lr2 x y μ) (k := fun x y H2 Q => ∃ i j, x = V.int i ∧ y = V.int j ∧ RgOk i j ∧ ∀ q, H2 q = none → Q (.ref q) (upd H2 q (.lst (rgV i j)))) (fun ρ s μ σ H r1 r2 v1 v2 Q t1 rep2 p => ?_) σ H Q q
  have ok := rep2.ok
  have t2 := rep2.tmp
  obtain ⟨d1, d2, h1, h2, p2⟩ := two_post p
  unfold lr2 at p2
  split at p2
  · split at p2
    · rename_i hh
      exact ⟨_, _, int_of t1 h1, int_of t2 h2, ⟨(rgOk_iff hh.1).1, (rgOk_iff hh.1).2, (rgOk_iff hh.2.1).1, (rgOk_iff hh.2.1).2, hh.2.2⟩, p2.newL ok (reps_rng _ _) (by rw [rgV_length, sizeLine_eq]; omega)⟩
    · exact p2.elim
  · exact p2.elim
/-! ### the signs of a text -/
def lS (f : EF) : LF := fun s μ => (f s μ).bindL fun r μ1 => match r with
  | .val (.str x) => .ok (x.cps.toList.map fun k => .str ⟨#[k]⟩) μ1
  | _ => .bad
theorem src_str {x : Str} : SrcOk c (Its x) (x.cps.toList.map fun k => .str ⟨#[k]⟩) (fun _ _ => True) where
  stay := fun _ _ _ _ _ _ _ => trivial
  stop := fun ρ H _ => by show x.cps.size ≤ _; rw [List.length_map, Array.length_toList]; exact Nat.le_refl _
  go := fun ρ H i _ h => by rw [List.length_map, Array.length_toList] at h; exact h
  yld := fun ρ s μ σ H i d y H' ok _ hd ⟨e, k, hk, hx⟩ => by
    subst e; subst hx
    rw [List.getElem?_map, Array.getElem?_toList, hk] at hd
    cases hd
    exact ⟨.refl, ok, .str _⟩
theorem dl_str {tg e : Expr} {fe : EF} (he : PE X e (tD c W fe)) : PI X tg e (tL c W (lS fe)) := (pi_str he).imp fun σ H R q =>
  tD_bindL (g := fun s r μ1 => match r with | .val (.str x) => .ok (x.cps.toList.map fun k => .str ⟨#[k]⟩) μ1 | _ => .bad) (k := fun σ v H1 R => ∃ x, v = .str x ∧ R (Its x) H1) (fun ρ s μ σ H r v R rep p => by
    split at p
    · rename_i ds' μ' e
      split at e
      · cases e
        exact ⟨_, str_of (μ := μ) rep.tmp rfl, p _ H ρ _ .refl rep.ok trivial src_str⟩
      · cases e
    · rename_i e
      split at e <;> cases e
    · exact p.elim) σ H R q
/-! ### a target of several names -/
def sTg (tg : TgF) (f : EF) : SF := fun s μ => (f s μ).bindS s fun r μ1 => match r with
  | .val d => match tg d s with
    | some s1 => .nx s1 μ1
    | none => .bad
  | _ => .bad
theorem ds_tg {tg e : Expr} {fe : EF} {g : TG} {is : List Nat} {tgf : TgF} {pos : Pos} (he : PE X e (tD c W fe)) (hg : PG X tg g) (ok : GOk c g is tgf) (hs : swapsWithSole [tg] e pos.line X.env = pure false := by rfl) (hw : swappedStores [tg] e X.env = pure none := by rfl)
    (h1 : (assignEach [tg] X.env).map (·.2) = [assign tg X.env] := by rfl) : PS X (.Assign [tg] e pos) (tS c W (sTg tgf fe)) := (ps_asg he hg hs hw h1).imp fun D σ H q =>
  tD_bindS (g := fun s r μ1 => match r with
    | .val d => match tgf d s with
      | some s1 => .nx s1 μ1
      | none => .bad
    | _ => .bad) (k := fun x σ H1 => g x σ H1 D.nx) (fun ρ s μ σ H r v rep p => by
      split at p
      · split at p
        · rename_i e
          obtain ⟨r1, k1⟩ := rep
          exact ok.ok ρ [] s _ μ σ H _ v _ k1 (by simpa using r1) e fun σ' k2 _ => p σ' H ρ .refl k2
        · exact p.elim
      · exact p.elim) σ H q
/-! ### a, b = x, y -/
def sPar (nw : Bool) (i j : Nat) (fa fb : EF) : SF := fun s μ => (fa s μ).bindS s fun x μ1 => (fb s μ1).bindS s fun y μ2 =>
  if nw = true then match y with
    | .newL xs => .nx ((s.set i (some (norm x))).set j (some (.obj μ2.length))) (μ2 ++ [.lst xs])
    | .newD xs => .nx ((s.set i (some (norm x))).set j (some (.obj μ2.length))) (μ2 ++ [.dct xs])
    | _ => .bad
  else .nx ((s.set i (some (norm x))).set j (some (norm y))) μ2
/-- a new one joins the store and a slot -/
theorem joins {ρ : List Addr} {s : Sl} {μ : Mu} {σ : St} {H : Hp} {r : R} {v : V} {ρ0 : List Addr} {H0 : Hp} {m : MO} (st : StepX ρ0 H0 (xo r v) ρ H) (rep : RepR c ρ s μ σ H r v) (hm : r = .newL (match m with | .lst xs => xs | _ => []) ∧ (∃ xs, m = .lst xs) ∨ r = .newD (match m with | .dct xs => xs | _ => []) ∧ (∃ xs, m = .dct xs)) :
    ∃ a, v = .ref a ∧ Ok c (ρ ++ [a]) [] s (μ ++ [m]) σ H ∧ StepX ρ0 H0 [] (ρ ++ [a]) H ∧ (ρ ++ [a])[μ.length]? = some a := by
  rcases hm with ⟨e, xs, em⟩ | ⟨e, xs, em⟩
  · subst em; subst e
    obtain ⟨a, vs, rfl, h1, h2, h3, h4, h5, h6⟩ := rep
    have kp : Keep (hid H (a :: ρ)) (hid H (ρ ++ [a])) := .sub fun b hb => by simp at hb ⊢; exact hb.symm
    have k := h6.join h2 (by rw [h1]; simp) h3 (m := .lst xs) ⟨vs, h1, h4, h5.keep kp⟩
    exact ⟨a, rfl, k, StepX.join st, by have := h6.g.len; rw [← this, List.getElem?_append_right (Nat.le_refl _)]; simp⟩
  · subst em; subst e
    obtain ⟨a, vs, rfl, h1, h2, h3, h5, h6⟩ := rep
    have kp : Keep (hid H (a :: ρ)) (hid H (ρ ++ [a])) := .sub fun b hb => by simp at hb ⊢; exact hb.symm
    have k := h6.join h2 (by rw [h1]; simp) h3 (m := .dct xs) ⟨vs, h1, h5.keep kp⟩
    exact ⟨a, rfl, k, StepX.join st, by have := h6.g.len; rw [← this, List.getElem?_append_right (Nat.le_refl _)]; simp⟩
theorem ds_par {nw : Bool} {i j : Nat} {x y : Str} {a b : Expr} {fa fb : EF} {px py pt : Pos} {kt k2 pt2} {pos : Pos} (hc : X.calm = true) (hN : X.N.Nodup) (hi : X.N[i]? = some x) (hj : X.N[j]? = some y) (hij : i ≠ j)
    (hx : X.env.scope.names.lookup x = some .local) (hy : X.env.scope.names.lookup y = some .local) (ha : PE X a (tD c W fa)) (hb : PE X b (tD c W fb))
    (hw : swappedStores [.Tuple [.Name x px, .Name y py] kt pt] (.Tuple [a, b] k2 pt2) X.env = pure (some [x, y]) := by rfl)
    (hs : swapsWithSole [.Tuple [.Name x px, .Name y py] kt pt] (.Tuple [a, b] k2 pt2) pos.line X.env = pure false := by rfl)
    (s1 : starEach [a, b] X.env = (false, eval a X.env) :: starEach [b] X.env := by rfl) (s2 : starEach [b] X.env = (false, eval b X.env) :: starEach [] X.env := by rfl) :
    PS X (.Assign [.Tuple [.Name x px, .Name y py] kt pt] (.Tuple [a, b] k2 pt2) pos) (tS c W (sPar nw i j fa fb)) :=
  (ps_par hc hN hi hj hij hx hy (pa_cons ha (pa_cons hb pa_nil s2) s1) hw hs).imp fun D σ H q => by
    refine tD_bindS (g := fun s x μ1 => (fb s μ1).bindS s fun y μ2 =>
      if nw = true then match y with
        | .newL xs => .nx ((s.set i (some (norm x))).set j (some (.obj μ2.length))) (μ2 ++ [.lst xs])
        | .newD xs => .nx ((s.set i (some (norm x))).set j (some (.obj μ2.length))) (μ2 ++ [.dct xs])
        | _ => .bad
      else .nx ((s.set i (some (norm x))).set j (some (norm y))) μ2) (k := fun x σ H1 => tCons (tD c W fb) tNil σ H1 fun xs H2 => ∃ v w, x :: xs = [v, w] ∧ D.nx ((σ.set i (some v)).set j (some w)) H2) (fun ρ s μ σ H r1 v1 rep p => ?_) σ H q
    refine ⟨ρ, s, μ, rep.ok, ?_⟩
    cases e1 : fb s μ with
    | exc C μ1 => rw [e1] at p; exact fun H' ρ' st ok' => p σ H' ρ' st ok'
    | bad => rw [e1] at p; exact p
    | ok r2 μ2 =>
      rw [e1] at p
      intro v2 H2 ρ2 st2 rep2
      have t1 := rep.tmp.keep st2.ext st2.weak.keep
      refine ⟨v1, v2, rfl, ?_⟩
      dsimp only [bindS_ok] at p
      cases nw with
      | false =>
        rw [if_neg (by decide)] at p
        exact p _ H2 ρ2 st2.weak ((rep2.ok.store (by simpa using t1.norm) i).store (by simpa using rep2.tmp.norm) j)
      | true =>
        rw [if_pos rfl] at p
        split at p
        · obtain ⟨a, rfl, k, st3, hg⟩ := joins st2 rep2 (m := .lst _) (.inl ⟨rfl, _, rfl⟩)
          have t3 := rep.tmp.keep st3.ext st3.keep
          exact p _ H2 _ st3 ((k.store (by simpa using t3.norm) i).store (r := .obj _) (v := .ref a) ⟨a, hg, rfl⟩ j)
        · obtain ⟨a, rfl, k, st3, hg⟩ := joins st2 rep2 (m := .dct _) (.inr ⟨rfl, _, rfl⟩)
          have t3 := rep.tmp.keep st3.ext st3.keep
          exact p _ H2 _ st3 ((k.store (by simpa using t3.norm) i).store (r := .obj _) (v := .ref a) ⟨a, hg, rfl⟩ j)
        · exact p.elim
def sPar3 (i j l : Nat) (fa fb fc : EF) : SF := fun s μ => (fa s μ).bindS s fun x μ1 => (fb s μ1).bindS s fun y μ2 => (fc s μ2).bindS s fun z μ3 => .nx (((s.set i (some (norm x))).set j (some (norm y))).set l (some (norm z))) μ3
theorem ds_par3 {i j l : Nat} {x y z : Str} {a b d : Expr} {fa fb fc : EF} {px py pz pt pos : Pos} {kt k2 pt2} (hc : X.calm = true) (hN : X.N.Nodup) (hi : X.N[i]? = some x) (hj : X.N[j]? = some y) (hl : X.N[l]? = some z) (hij : i ≠ j) (hil : i ≠ l) (hjl : j ≠ l)
    (hx : X.env.scope.names.lookup x = some .local) (hy : X.env.scope.names.lookup y = some .local) (hz : X.env.scope.names.lookup z = some .local) (ha : PE X a (tD c W fa)) (hb : PE X b (tD c W fb)) (hd : PE X d (tD c W fc))
    (hw : swappedStores [.Tuple [.Name x px, .Name y py, .Name z pz] kt pt] (.Tuple [a, b, d] k2 pt2) X.env = pure (some [x, y, z]) := by rfl)
    (hs : swapsWithSole [.Tuple [.Name x px, .Name y py, .Name z pz] kt pt] (.Tuple [a, b, d] k2 pt2) pos.line X.env = pure false := by rfl)
    (s1 : starEach [a, b, d] X.env = (false, eval a X.env) :: starEach [b, d] X.env := by rfl) (s2 : starEach [b, d] X.env = (false, eval b X.env) :: starEach [d] X.env := by rfl) (s3 : starEach [d] X.env = (false, eval d X.env) :: starEach [] X.env := by rfl) :
    PS X (.Assign [.Tuple [.Name x px, .Name y py, .Name z pz] kt pt] (.Tuple [a, b, d] k2 pt2) pos) (tS c W (sPar3 i j l fa fb fc)) :=
  (ps_par3 hc hN hi hj hl hij hil hjl hx hy hz (pa_cons ha (pa_cons hb (pa_cons hd pa_nil s3) s2) s1) hw hs).imp fun D σ H q => by
    refine tD_bindS (g := fun s x μ1 => (fb s μ1).bindS s fun y μ2 => (fc s μ2).bindS s fun z μ3 => .nx (((s.set i (some (norm x))).set j (some (norm y))).set l (some (norm z))) μ3) (k := fun x σ H1 => tCons (tD c W fb) (tCons (tD c W fc) tNil) σ H1 fun xs H2 => ∃ u v w, x :: xs = [u, v, w] ∧ D.nx (((σ.set i (some u)).set j (some v)).set l (some w)) H2) (fun ρ s μ σ H r1 v1 rep p => ?_) σ H q
    refine ⟨ρ, s, μ, rep.ok, ?_⟩
    cases e1 : fb s μ with
    | exc C μ1 => rw [e1] at p; exact fun H' ρ' st ok' => p σ H' ρ' st ok'
    | bad => rw [e1] at p; exact p
    | ok r2 μ2 =>
      rw [e1] at p
      intro v2 H2 ρ2 st2 rep2
      refine ⟨ρ2, s, μ2, rep2.ok, ?_⟩
      dsimp only [bindS_ok] at p
      cases e2 : fc s μ2 with
      | exc C μ1 => rw [e2] at p; exact fun H' ρ' st ok' => p σ H' ρ' (st2.weak.trans st) ok'
      | bad => rw [e2] at p; exact p
      | ok r3 μ3 =>
        rw [e2] at p
        intro v3 H3 ρ3 st3 rep3
        have t2 := rep2.tmp.keep st3.ext st3.weak.keep
        have t1 := rep.tmp.keep (st2.ext.trans st3.ext) (st2.weak.trans st3.weak).keep
        exact ⟨v1, v2, v3, rfl, p _ H3 ρ3 (st2.weak.trans st3.weak) (((rep3.ok.store (by simpa using t1.norm) i).store (by simpa using t2.norm) j).store (by simpa using rep3.tmp.norm) l)⟩
end
end Dl

namespace Dl
open PySem PySem.Spec PyProof.Rows L2
/-! ### what the top has written -/
/-- the arguments bind by place -/
def PureB (fd : FuncData) (ps : List Str) : Prop := ∀ us : List Value, us.length = ps.length → bindArgs fd ⟨us, []⟩ = pure (ps.zip us)
/-- a def, at f -/
structure DefAt (K : PySem.W.Frag) (mg : Str → Option Value) (nm : Str) (ps : List Str) (st : Stmt) (f : Addr) : Prop where
  g : mg nm = some (.ref f)
  k : PySem.W.keepIn K (.ref f) = true
  fn : ∃ fd, Fun K nm nm st f fd ∧ Binds K fd ps [] ∧ PureB fd ps
/-- a class of errors without own __init__, at C -/
structure ExcAt (K : PySem.W.Frag) (mg : Str → Option Value) (nm : Str) (C : Addr) : Prop where
  g : mg nm = some (.ref C)
  k : PySem.W.keepIn K (.ref C) = true
  q : PySem.W.excIn K C [.type "ValueError", .type "Exception", .type "BaseException", .type "object"] "ValueError.__new__" = true
  s : PySem.W.subIn K (.ref C) (.type "BaseException") = some true
  t : PySem.W.typeIn K (.ref C) = some (.type "type")
/-- a def that keeps its promise -/
structure Got (P : Program) (w : World) (K : PySem.W.Frag) (mg : Str → Option Value) (base : Heap) (T : List (Addr × Str)) (k : Nat) (nm : Str) (f : Addr) (ps : List Str) (F : FF) : Prop where
  g : mg nm = some (.ref f)
  kp : PySem.W.keepIn K (.ref f) = true
  fn : ∃ fd, (Binds K fd ps [] ∧ PureB fd ps) ∧ FnOk P w K mg base (L2N.CX P w) k f fd ps (spF K T ps.length F)
section
variable {P : Program} {w : World} {K : PySem.W.Frag} {mg : Str → Option Value} {base : Heap} {T : List (Addr × Str)}
theorem got {nm : Str} {ps N : List Str} {st : Stmt} {f : Addr} {k : Nat} {body : SF} (d : DefAt K mg nm ps st f) (S : FnScope N ps (defScope st))
    (h : ∀ (cdv : Value) (A : Around) (outer : List Env) (s : Shared) (H : Hp) (E : XK) (B : Hp) (n : Nat), Room k (A.deeper (envOfC nm (defScope st) s.heap.objs.size f cdv)) →
      PSs (cxOf (L2N.CX P w) P w K mg base N nm (defScope st) f cdv A outer s H E) (defBody st) (tS ⟨K, T, B, n⟩ (fun cls d _ H => E cls d H) body)) : Got P w K mg base T (k + 1) nm f ps (defF N.length body) := by
  obtain ⟨fd, h1, h2⟩ := d.fn
  exact ⟨d.g, d.k, fd, h2, fn_ok h1 S fun cdv A outer s H E c e1 e2 hr => by cases c; cases e1; cases e2; exact h cdv A outer s H E _ _ hr⟩
theorem gotL {nm : Str} {ps N : List Str} {st : Stmt} {f : Addr} {k : Nat} {body : SF} (d : DefAt K mg nm ps st f) (S : FnScope N ps (defScope st))
    (h : ∀ (base : Heap) (cdv : Value) (A : Around) (outer : List Env) (s : Shared) (H : Hp) (E : XK) (B : Hp) (n : Nat), Room k (A.deeper (envOfC nm (defScope st) s.heap.objs.size f cdv)) →
      PSs (cxOf (L2N.CX P w) P w K mg base N nm (defScope st) f cdv A outer s H E) (defBody st) (tS ⟨K, T, B, n⟩ (fun cls d _ H => E cls d H) body)) : ∃ fd, PureB fd ps ∧ ∀ base : Heap, FnOk P w K mg base (L2N.CX P w) (k + 1) f fd ps (spF K T ps.length (defF N.length body)) := by
  obtain ⟨fd, h1, h2, h3⟩ := d.fn
  exact ⟨fd, h3, fun base => fn_ok h1 S fun cdv A outer s H E c e1 e2 hr => by cases c; cases e1; cases e2; exact h base cdv A outer s H E _ _ hr⟩
theorem Got.as {nm : Str} {ps : List Str} {f : Addr} {k : Nat} {F G : FF} (h : Got P w K mg base T k nm f ps F) (e : ∀ rs μ, rs.length = ps.length → G rs μ ≠ .bad → F rs μ = G rs μ) : Got P w K mg base T k nm f ps G := by
  obtain ⟨h1, h2, fd, h3, h4⟩ := h
  exact ⟨h1, h2, fd, h3, fn_as h4 e⟩
end
/-- nothing leaves here -/
theorem takesN {X : Cx} : L2N.Takes X (fun _ _ _ _ => False) := fun _ _ ⟨_, _, _, _, _, _, _, _, _, _, _, _, _, _, _, _, z⟩ => z.elim
theorem _root_.L2.Room.u65 {k : Nat} {A : Around} (r : Room k A) : A.units + 65 < cLine := by have := r.un; omega
theorem _root_.L2.Room.u1 {k : Nat} {A : Around} (r : Room k A) : A.units + 1 < cLine := by have := r.un; omega
section
variable {c : Cc} {W : WX} {X : Cx} {e : Expr} {es : List Expr} {fs : AF} {pos pos2 p p2 : Pos} {x : Str} {k k' n : Nat} {f C : Addr} {fd : FuncData} {ps : List Str} {G : FF}
theorem de_got (F : Got X.prog X.w X.K X.mg X.base c.T k x f ps G) (hK : c.K = X.K) (hr : Room k' X.A) (hle : k ≤ k') (hg : Gl X x) (tk : L2N.Takes X W)
    (ha : PA X (e :: es) (tA c W fs)) (hdb : (x == ("__debug__" : Str)) = false := by decide) (he : starEach (e :: es) X.env = (false, eval e X.env) :: starEach es X.env := by rfl) (hpl : (backTo pos (starEach es X.env)).any (·.1) = false := by rfl) :
    PE X (.Call (.Name x p) (e :: es) [] pos) (tD c W (eFn ps.length G fs)) := by
  obtain ⟨h1, h2, fd, h3, h4⟩ := F
  exact de_fn h4 hK (hr.mono hle) hg h1 h2 h3.1 tk ha hdb he hpl
theorem ds_raiseX {m : Str} {j : Nat} (E : ExcAt X.K X.mg x C) (hc : X.calm = true) (tk : L2N.Takes X W) (hg : Gl X x) (hdb : (x == ("__debug__" : Str)) = false := by decide) :
    PS X (.Raise (some (.Call (.Name x p) [.Constant (.str m) j p2] [] pos)) none pos2) (tS c W (sRaise C)) :=
  ds_raise hc tk (L2N.pmk_own PySem.F.excBase_ValueError E.q E.g E.k (raises_own E.s E.t) hg hdb) fun σ H Q q => q
theorem de_globI {i : Int} (hg : Gl X x) (hm : ∃ t, X.mg x = some (.int i t)) (hd : (x == ("__debug__" : Str)) = false := by decide) : PE X (.Name x pos) (tD c W (eC (.int i))) := by
  obtain ⟨t, h⟩ := hm
  exact de_glob (v := .int i) hg h ⟨t, rfl⟩ (fun _ _ => .int i) hd
theorem de_globS {i : Str} (hg : Gl X x) (hm : ∃ t, X.mg x = some (.str i t)) (hd : (x == ("__debug__" : Str)) = false := by decide) : PE X (.Name x pos) (tD c W (eC (.str i))) := by
  obtain ⟨t, h⟩ := hm
  exact de_glob (v := .str i) hg h ⟨t, rfl⟩ (fun _ _ => .str i) hd
end
end Dl

namespace Dl
open PySem PySem.Spec PyProof.Rows L2
section
variable {c : Cc} {W : WX} {X : Cx}
/-- a, b = x, y by way of a tuple -/
theorem ds_parT {nw : Bool} {i j : Nat} {x y : Str} {a b : Expr} {fa fb : EF} {px py pt : Pos} {kt k2 pt2} {pos : Pos} (hc : X.calm = true) (hN : X.N.Nodup) (hi : X.N[i]? = some x) (hj : X.N[j]? = some y)
    (hx : Loc X.env.scope x) (hy : Loc X.env.scope y) (ha : PE X a (tD c W fa)) (hb : PE X b (tD c W fb))
    (hw : swappedStores [.Tuple [.Name x px, .Name y py] kt pt] (.Tuple [a, b] k2 pt2) X.env = pure none := by rfl)
    (hs : swapsWithSole [.Tuple [.Name x px, .Name y py] kt pt] (.Tuple [a, b] k2 pt2) pos.line X.env = pure false := by rfl)
    (h1 : (assignEach [.Tuple [.Name x px, .Name y py] kt pt] X.env).map (·.2) = [assign (.Tuple [.Name x px, .Name y py] kt pt) X.env] := by rfl)
    (h2 : (assignEach [.Name x px, .Name y py] X.env).map (·.2) = assign (.Name x px) X.env :: (assignEach [.Name y py] X.env).map (·.2) := by rfl)
    (h3 : (assignEach [.Name y py] X.env).map (·.2) = assign (.Name y py) X.env :: (assignEach [] X.env).map (·.2) := by rfl)
    (h4 : (assignEach [.Name x px, .Name y py] X.env).length = 2 := by rfl) (h5 : (assignEach [.Name x px, .Name y py] X.env).findIdx? (·.1) = none := by rfl)
    (hf1 : X.fn x = true ∨ X.env.scope.names.lookup x = some .local := by first | exact .inl rfl | exact .inr rfl | assumption) (hf2 : X.fn y = true ∨ X.env.scope.names.lookup y = some .local := by first | exact .inl rfl | exact .inr rfl | assumption)
    (s1 : starEach [a, b] X.env = (false, eval a X.env) :: starEach [b] X.env := by rfl) (s2 : starEach [b] X.env = (false, eval b X.env) :: starEach [] X.env := by rfl) :
    PS X (.Assign [.Tuple [.Name x px, .Name y py] kt pt] (.Tuple [a, b] k2 pt2) pos) (tS c W (sPar nw i j fa fb)) :=
  (ps_asg (pe_tup (pa_cons ha (pa_cons hb pa_nil s2) s1)) (pg_tup hc (pgs_cons (pg_name hN hi hx hf1) (pgs_cons (pg_name hN hj hy hf2) pgs_nil h3) h2) h4 h5) hs hw h1).imp fun D σ H q => by
    refine tD_bindS (g := fun s x μ1 => (fb s μ1).bindS s fun y μ2 =>
      if nw = true then match y with
        | .newL xs => .nx ((s.set i (some (norm x))).set j (some (.obj μ2.length))) (μ2 ++ [.lst xs])
        | .newD xs => .nx ((s.set i (some (norm x))).set j (some (.obj μ2.length))) (μ2 ++ [.dct xs])
        | _ => .bad
      else .nx ((s.set i (some (norm x))).set j (some (norm y))) μ2) (k := fun x σ H1 => tCons (tD c W fb) tNil σ H1 fun xs H2 => (x :: xs).length ≤ sizeLine ∧ ∀ p, H2 p = none → gTup X.K 2 (gCons (gName i) (gCons (gName j) gNil)) (.ref p) σ (upd H2 p (.tup (x :: xs))) D.nx) (fun ρ s μ σ H r1 v1 rep p => ?_) σ H q
    refine ⟨ρ, s, μ, rep.ok, ?_⟩
    cases e1 : fb s μ with
    | exc C μ1 => rw [e1] at p; exact fun H' ρ' st ok' => p σ H' ρ' st ok'
    | bad => rw [e1] at p; exact p
    | ok r2 μ2 =>
      rw [e1] at p
      intro v2 H2 ρ2 st2 rep2
      refine ⟨by show 2 ≤ sizeLine; exact le1000 (by decide), fun a ha => ⟨a, _, rfl, .of upd_same, rfl, v1, _, rfl, v2, _, rfl, rfl, ?_⟩⟩
      dsimp only [bindS_ok] at p
      cases nw with
      | false =>
        rw [if_neg (by decide)] at p
        have st3 : StepX ρ H [] ρ2 (upd H2 a (.tup [v1, v2])) := st2.weak.trans (.alloc ha)
        have t1 := rep.tmp.keep st3.ext st3.keep
        have t2 := rep2.tmp.keep Ext.refl (StepX.alloc (ρ := ρ2) (o := .tup [v1, v2]) ha).keep
        have ok3 := (rep2.ok.alloc (o := .tup [v1, v2]) ha).xnil
        exact p _ _ ρ2 st3 ((ok3.store (by simpa using t1.norm) i).store (by simpa using t2.norm) j)
      | true =>
        rw [if_pos rfl] at p
        split at p
        · obtain ⟨b, rfl, k, st3, hg⟩ := joins st2 rep2 (m := .lst _) (.inl ⟨rfl, _, rfl⟩)
          have st4 := st3.trans (.alloc (o := .tup [v1, .ref b]) ha)
          have t3 := rep.tmp.keep st4.ext st4.keep
          have ok4 := (k.alloc (o := .tup [v1, .ref b]) ha).xnil
          exact p _ _ _ st4 ((ok4.store (by simpa using t3.norm) i).store (r := .obj _) (v := .ref b) ⟨b, hg, rfl⟩ j)
        · obtain ⟨b, rfl, k, st3, hg⟩ := joins st2 rep2 (m := .dct _) (.inr ⟨rfl, _, rfl⟩)
          have st4 := st3.trans (.alloc (o := .tup [v1, .ref b]) ha)
          have t3 := rep.tmp.keep st4.ext st4.keep
          have ok4 := (k.alloc (o := .tup [v1, .ref b]) ha).xnil
          exact p _ _ _ st4 ((ok4.store (by simpa using t3.norm) i).store (r := .obj _) (v := .ref b) ⟨b, hg, rfl⟩ j)
        · exact p.elim
end
end Dl

namespace Dl
open PySem PySem.Spec PyProof.Rows L2
open PySem.W (WData)
/-! ### the end of a law -/
theorem mkDef {K : PySem.W.Frag} {h : Heap} {mg : Str → Option Value} {nm : Str} {ps : List Str} {st : Stmt} {f : Addr} {od an : Option Addr} {sl : Array (Option Value)} {oc kV dc pm cd ct : Value} (X : K.In h) (G : h.Ns mainGlobals mg)
    (a1 : PySem.W.nsIn K mainGlobals nm = some (some (.ref f))) (l1 : K.lookup f = some ⟨oc, od, .func (PySem.W.fnOf nm nm (defArgs st) (defBody st) (defScope st) .none kV dc pm an cd ct), sl⟩) (c1 : PySem.W.codeIn K cd nm = true) (k1 : PySem.W.keepIn K (.ref f) = true)
    (hb : ∀ (kV doc pm : Value) (an : Option Addr) (cdv ct : Value) (us : List Value), us.length = ps.length → bindArgs (PySem.W.fnOf nm nm (defArgs st) (defBody st) (defScope st) .none kV doc pm an cdv ct) ⟨us, []⟩ = pure (ps.zip us)) : DefAt K mg nm ps st f := by
  have F := fun_mk (st := st) l1 c1 k1
  exact ⟨PySem.W.mg_of X G a1, k1, _, F, F.binds hb, hb _ _ _ _ _ _⟩
theorem mkExc {K : PySem.W.Frag} {h : Heap} {mg : Str → Option Value} {nm : Str} {C : Addr} (X : K.In h) (G : h.Ns mainGlobals mg) (a1 : PySem.W.nsIn K mainGlobals nm = some (some (.ref C))) (k1 : PySem.W.keepIn K (.ref C) = true)
    (q1 : PySem.W.excIn K C [.type "ValueError", .type "Exception", .type "BaseException", .type "object"] "ValueError.__new__" = true) (s1 : PySem.W.subIn K (.ref C) (.type "BaseException") = some true) (t1 : PySem.W.typeIn K (.ref C) = some (.type "type")) : ExcAt K mg nm C :=
  ⟨PySem.W.mg_of X G a1, k1, q1, s1, t1⟩
theorem mkLoose {q : Program} {lv : List (Str × WData)} {mg : Str → Option Value} {h : Heap} {x : Str} {i : Int} (X : PySem.W.XL q lv mg h) (m : (x, WData.int i) ∈ lv) : ∃ t, mg x = some (.int i t) := by
  obtain ⟨v, h1, h2⟩ := X.2.val _ m
  cases h2
  exact ⟨_, h1⟩
/-- what the head's heap tells of the law -/
def LawAt (P : Program) (w : World) (K : PySem.W.Frag) (k : Nat) (mg : Str → Option Value) (fa : Addr) (h : Heap) : Prop :=
  ∃ (cs : List (Addr × Addr)) (T : List (Addr × Str)) (F : FF), (∀ p ∈ cs, h.get? p.2 = some { cls := .none, data := .fields #[] }) ∧ (∀ p ∈ cs, K.lookup p.2 = none) ∧ (∀ p ∈ cs, PySem.W.CodeHd h p.1 p.2) ∧
    (∀ H : Hp, (∀ p ∈ cs, H p.2 = some (.tbl #[])) → LamX.Tabs T H) ∧
    (∃ fd : FuncData, (∀ (s : Shared) (u : Value), BindsTo s fd ⟨[u], []⟩ [("script", u)]) ∧ ∀ base : Heap, K.In base → base.Ns mainGlobals mg → (∀ p ∈ cs, LamX.TabB base mg p.1 p.2) → FnOk P w K mg base (L2N.CX P w) k fa fd ["script"] (spF K T 1 F)) ∧
    ∀ ns : List Int, ns.length ≤ 63 → (∀ z ∈ ns, Builtin.Int.intBits z ≤ 1048576) → ∃ μ, F [.val (.frl (ns.map .int))] [] = .ok (.val (.bl true)) μ
theorem LawAt.of {P : Program} {w : World} {K : PySem.W.Frag} {k : Nat} {mg : Str → Option Value} {fa : Addr} {h : Heap} {F : FF} (L : ∀ ns : List Int, ns.length ≤ 63 → (∀ z ∈ ns, Builtin.Int.intBits z ≤ 1048576) → ∃ μ, F [.val (.frl (ns.map .int))] [] = .ok (.val (.bl true)) μ) (hd : ∃ fd, PureB fd ["script"] ∧ ∀ base : Heap, FnOk P w K mg base (L2N.CX P w) k fa fd ["script"] (spF K [] 1 F)) : LawAt P w K k mg fa h := by
  obtain ⟨fd, h1, h2⟩ := hd
  exact ⟨[], [], F, fun p hp => (by cases hp), fun p hp => (by cases hp), fun p hp => (by cases hp), fun H _ p hp => (by cases hp), ⟨fd, fun s u => .of_eq (h1 [u] rfl), fun base _ _ _ => h2 base⟩, L⟩
/-- the tables of the code objects, as the head leaves them -/
def TabsOf (q : Program) (K : PySem.W.Frag) (h : Heap) : Prop := ∀ (x : Str) (c P : Addr), ((recsOf q).find? (fun e => e.name == x)).isSome = true → PySem.W.tabIn K x = some (c, P) → PySem.W.CodeHd h c P ∧ h.get? P = some { cls := .none, data := .fields #[] }
theorem no_tab {K : PySem.W.Frag} {h : Heap} {P : Addr} (X : K.In h) (n : PySem.W.noTabs K = true) (e : h.get? P = some { cls := .none, data := .fields #[] }) : K.lookup P = none := by
  cases q : K.lookup P with
  | none => rfl
  | some o =>
    have e2 := X _ _ q
    rw [e] at e2
    cases e2
    have z : false = true := List.all_eq_true.mp n _ (PySem.W.mem_of_lookupK q)
    exact nomatch z
theorem LawAt.ofT {P : Program} {w : World} {K : PySem.W.Frag} {k : Nat} {mg : Str → Option Value} {fa : Addr} {h : Heap} {F : FF} (cs : List (Addr × Addr)) (T : List (Addr × Str)) (L : ∀ ns : List Int, ns.length ≤ 63 → (∀ z ∈ ns, Builtin.Int.intBits z ≤ 1048576) → ∃ μ, F [.val (.frl (ns.map .int))] [] = .ok (.val (.bl true)) μ)
    (X : K.In h) (nt : PySem.W.noTabs K = true) (hc : ∀ p ∈ cs, PySem.W.CodeHd h p.1 p.2 ∧ h.get? p.2 = some { cls := .none, data := .fields #[] }) (hT : ∀ t ∈ T, ∃ p ∈ cs, p.2 = t.1)
    (hd : ∃ fd, PureB fd ["script"] ∧ ∀ base : Heap, (∀ p ∈ cs, LamX.TabB base mg p.1 p.2) → FnOk P w K mg base (L2N.CX P w) k fa fd ["script"] (spF K T 1 F)) : LawAt P w K k mg fa h := by
  obtain ⟨fd, h1, h2⟩ := hd
  exact ⟨cs, T, F, fun p hp => (hc p hp).2, fun p hp => no_tab X nt (hc p hp).2, fun p hp => (hc p hp).1, fun H hH t ht => by
    obtain ⟨p, hp, e⟩ := hT t ht
    exact .nil (by rw [← e]; exact hH p hp), ⟨fd, fun s u => .of_eq (h1 [u] rfl), fun base _ _ hb => h2 base hb⟩, L⟩
theorem reps_ints {K : PySem.W.Frag} {H : Hp} : ∀ ns : List Int, Reps K H (ns.map .int) (ns.map V.int)
  | [] => .nil
  | n :: ns => .cons (.int n) (reps_ints ns)
theorem walk_law {l : PySem.W.OpenLaw} {k : Nat} {q : Program} {loose : List Str} {XP : (Str → Option Value) → Heap → Prop} {YP : World → Heap → Prop} {d : DefRec} {K : Params → PySem.W.Frag}
    (hn : l.most = some 63) (hdf : d.params.defaults = []) (hr : Room k callerA) (hY : ∀ (w : World) (h : Heap), YP w h → (K w.params).In h)
    (F : ∀ (w : World) (mg : Str → Option Value) (fa : Addr) (h : Heap), XP mg h → YP w h → (K w.params).In h → h.Ns mainGlobals mg → mg d.name = some (.ref fa) → TabsOf q (K w.params) h → LawAt l.prog w (K w.params) k mg fa h) :
    PySem.W.WalkO q loose XP YP l.row.toRowW d [] (fun f vs => PySem.call f vs) := by
  refine Att.attach_callB hn hdf fun w s₀ s₁ mg mb fa o pm cd doc a vs ns G Y ho hd hcd hmg hobj hints hlen hbits hg => ?_
  have KX := hY w _ Y
  obtain ⟨cs, T, F, hT, nT, C, tb, ⟨fd, hb, hF⟩, hL⟩ := F w mg fa _ G.X Y KX G.T.g hmg fun x c P hx ht => by
    obtain ⟨d, hd⟩ := Option.isSome_iff_exists.mp hx
    exact PySem.W.tab_of G.T KX hd ht
  have hz : ns.length ≤ sizeLine := Nat.le_trans hlen (by rw [sizeLine_eq]; decide)
  refine LamX.law_callTs KX G.T.g G.T.b G.T.builtins G.T.nolimit hg hT nT C G.T.bmain hobj hints hz hr hF hb (fun H hH hS => ?_) fun H e s' c => ?_
  · obtain ⟨μ, e⟩ := hL ns hlen hbits
    refine ⟨[], [.val (.frl (ns.map .int))], [], rfl, .cons (.frl (by rw [hid_nil]; exact hS) (by rw [List.length_map]; exact hz) (reps_ints ns)) .nil, ⟨rfl, .nil, fun a h => (by cases h), fun i a m h => by simp at h, tb H hH⟩, ?_⟩
    rw [e]
    intro v H' st ⟨r, g⟩
    cases r
    rfl
  · obtain ⟨_, _, _, _, _, _, _, _, _, _, _, _, z⟩ := c
    exact z.elim
end Dl

namespace Dl
open PySem PySem.Spec PyProof.Rows L2
/-! ### dicts: stored into, walked, displayed -/
def keyD : Key → D
  | .inl i => .int i
  | .inr x => .str x
section
variable {K : PySem.W.Frag} {H : Hp}
theorem RepK.keys : ∀ {ds : List (Key × D)} {vs : List (Key × V)}, RepK K H ds vs → vs.map (·.1) = ds.map (·.1)
  | _, _, .nil => rfl
  | _, _, .cons _ t => by rw [List.map_cons, List.map_cons, RepK.keys t]
theorem RepK.any (k : Key) : ∀ {ds : List (Key × D)} {vs : List (Key × V)}, RepK K H ds vs → (vs.any fun kv => decide (kv.1 = k)) = ds.any fun kv => decide (kv.1 = k)
  | _, _, .nil => rfl
  | _, _, .cons _ t => by rw [List.any_cons, List.any_cons, RepK.any k t]
theorem RepK.app {k : Key} {d : D} {v : V} (q : Rep K H d v) : ∀ {ds : List (Key × D)} {vs : List (Key × V)}, RepK K H ds vs → RepK K H (ds ++ [(k, d)]) (vs ++ [(k, v)])
  | _, _, .nil => .cons q .nil
  | _, _, .cons r t => .cons r (RepK.app q t)
theorem RepK.repl {k : Key} {d : D} {v : V} (q : Rep K H d v) : ∀ {ds : List (Key × D)} {vs : List (Key × V)}, RepK K H ds vs → RepK K H (ds.map fun kv => if kv.1 = k then (kv.1, d) else kv) (vs.map fun kv => if kv.1 = k then (kv.1, v) else kv)
  | _, _, .nil => .nil
  | _, _, @RepK.cons _ _ k' _ _ _ _ r t => by
    rw [List.map_cons, List.map_cons]
    by_cases e : k' = k
    · rw [if_pos e, if_pos e]; exact .cons q (RepK.repl q t)
    · rw [if_neg e, if_neg e]; exact .cons r (RepK.repl q t)
theorem RepK.put {k : Key} {d : D} {v : V} (q : Rep K H d v) {ds : List (Key × D)} {vs : List (Key × V)} (r : RepK K H ds vs) : RepK K H (putKD ds k d) (putK vs k v) := by
  unfold putKD putK
  rw [r.any k]
  split
  · exact r.repl q
  · exact r.app q
def mergeD (acc more : List (Key × D)) : List (Key × D) := more.foldl (fun acc kv => putKD acc kv.1 kv.2) acc
theorem RepK.merge {ds : List (Key × D)} {vs : List (Key × V)} (r : RepK K H ds vs) : ∀ {acc : List (Key × D)} {avs : List (Key × V)}, RepK K H acc avs → RepK K H (mergeD acc ds) (mergeK avs vs) := by
  induction ds generalizing vs with
  | nil => cases r; exact fun a => a
  | cons p ds ih =>
    cases r with
    | cons q t => exact fun a => ih t (a.put q)
theorem RepK.zip : ∀ {ks : List Key} {ds : List D} {vs : List V}, Reps K H ds vs → RepK K H (ks.zip ds) (ks.zip vs)
  | [], _, _, _ => by rw [List.zip_nil_left, List.zip_nil_left]; exact .nil
  | _ :: _, _, _, .nil => .nil
  | _ :: _, _, _, .cons r t => .cons r (RepK.zip t)
end
section
variable {c : Cc} {W : WX} {X : Cx}
theorem Ok.putD {ρ : List Addr} {s : Sl} {μ : Mu} {σ : St} {H : Hp} {a : Addr} {old new : List (Key × D)} {vs : List (Key × V)} {k : Nat} (ok : Ok c ρ [] s μ σ H) (hk : ρ[k]? = some a) (hm : μ[k]? = some (.dct old)) (r : RepK c.K (hid H ρ) new vs) :
    Ok c ρ [] s (μ.set k (.dct new)) σ (upd H a (.dK vs)) ∧ StepX ρ H [] ρ (upd H a (.dK vs)) := by
  have hD : a ∈ ρ := List.mem_of_getElem? hk
  obtain ⟨vs0, h0, _⟩ := ok.g.objs k a _ hk hm
  have ke : hid (upd H a (.dK vs)) ρ = hid H ρ := by
    funext b
    by_cases h : b ∈ ρ
    · rw [hid_in h, hid_in h]
    · rw [hid_out h, hid_out h, upd_ne fun z => by rw [z] at h; exact h hD]
  have gr : ∀ b, H b ≠ none → upd H a (.dK vs) b ≠ none := fun b h => by unfold upd; split <;> simp [h]
  refine ⟨⟨⟨by simp [ok.g.len], ok.g.nd, fun b h => gr b (ok.g.live b h), fun i b m h1 h2 => ?_, tabs_upd ok.g.tabs h0 (fun ps z => nomatch z) (fun φ z => nomatch z)⟩, by simpa [ke] using ok.sl, fun b h => gr b (ok.dom b h), ok.new, ok.le⟩, ⟨.refl, by simpa [ke] using KeepX.refl _, gr⟩⟩
  have hkl : k < μ.length := (List.getElem?_eq_some_iff.mp hm).1
  by_cases hi : i = k
  · subst hi
    rw [List.getElem?_set_self hkl] at h2
    cases h2
    rw [hk] at h1; cases h1
    exact ⟨vs, upd_same, by simpa [ke] using r⟩
  · rw [List.getElem?_set_ne (Ne.symm hi)] at h2
    have hb : b ≠ a := fun z => by
      subst z
      have e1 := (List.getElem?_eq_some_iff.mp h1)
      have e2 := (List.getElem?_eq_some_iff.mp hk)
      exact hi ((List.getElem_inj ok.g.nd).mp (e1.2.trans e2.2.symm))
    have := ok.g.objs i b m h1 h2
    refine MOk.keep ?_ (upd_ne hb) this
    simpa [ke] using Keep.refl _
theorem keyOf_rep {K : PySem.W.Frag} {H : Hp} {d : D} {k : Key} {v : V} (r : Rep K H d v) (e : keyOf d = some k) : v = kV k := by
  cases d with
  | int i => cases e; cases r; rfl
  | str i => cases e; cases r; rfl
  | _ => cases e
theorem ds_putD {o i value : Expr} {fo fi fv : EF} {pos pos' : Pos} (hu : X.A.units + 1 < cLine) (ho : PE X o (tD c W fo)) (hi : PE X i (tD c W fi)) (hv : PE X value (tD c W fv)) (hs : swapsWith value (some (.Subscript o i pos')) pos.line X.env = pure false := by rfl) :
    PS X (.Assign [.Subscript o i pos'] value pos) (tS c W (sPutD fv fo fi)) := (ps_dput hu ho hi hv hs).imp fun D σ H q => by
  refine tD_bindS (g := fun s y μ1 => (fo s μ1).bindS s fun x μ2 => (fi s μ2).bindS s fun i μ3 => match dataOf y, x, deref μ3 i with
    | some d, .obj j, some dk => match keyOf dk, μ3[j]? with
      | some k, some (.dct kvs) => if kvs.length < sizeLine then .nx s (μ3.set j (.dct (putKD kvs k d))) else .bad
      | _, _ => .bad
    | _, _, _ => .bad) (k := fun y σ H1 => tD c W fo σ H1 fun x H2 => tD c W fi σ H2 fun z H3 => ∃ a H4, x = .ref a ∧ DPut H3 a z y H4 ∧ D.nx σ H4) (fun ρ s μ σ H r1 v1 rep p => ?_) σ H q
  refine ⟨ρ, s, μ, rep.ok, ?_⟩
  cases e1 : fo s μ with
  | exc C μ1 => rw [e1] at p; exact fun H' ρ' st ok' => p σ H' ρ' st ok'
  | bad => rw [e1] at p; exact p
  | ok r2 μ2 =>
    rw [e1] at p
    intro v2 H2 ρ2 st rep2
    have p2 := PostS.from st.weak p
    refine ⟨ρ2, s, μ2, rep2.ok, ?_⟩
    dsimp only [bindS_ok] at p2
    cases e2 : fi s μ2 with
    | exc C μ1 => rw [e2] at p2; exact fun H' ρ' st ok' => p2 σ H' ρ' st ok'
    | bad => rw [e2] at p2; exact p2
    | ok r3 μ3 =>
      rw [e2] at p2
      intro v3 H3 ρ3 st3 rep3
      have p3 := PostS.from st3.weak p2
      dsimp only [bindS_ok] at p3
      have t1 := rep.tmp.keep (st.ext.trans st3.ext) (st.weak.trans st3.weak).keep
      have t2 := rep2.tmp.keep st3.ext st3.weak.keep
      cases e4 : dataOf r1 with
      | none => rw [e4] at p3; exact p3.elim
      | some d =>
        rw [e4] at p3
        split at p3
        · rename_i d' j dk heq hdk
          cases heq
          obtain ⟨a, ha2, rfl⟩ := t2
          obtain ⟨m, hm, hk⟩ := mu_of rep3.ok.g ha2
          rw [hm] at p3
          split at p3
          · rename_i k kvs hkey hmm
            cases hmm
            split at p3
            · rename_i hlt
              obtain ⟨vs, q1, q3⟩ := hk
              have q3 : RepK c.K (hid H3 ρ3) kvs vs := by simpa using q3
              have ek := keyOf_rep (rep_of rep3.ok.g rep3.tmp hdk) hkey
              obtain ⟨okc, stc⟩ := rep3.ok.putD ha2 hm (q3.put (k := k) (dataOf_tmp t1 e4))
              exact ⟨a, _, rfl, by rw [ek]; exact DPut.k q1 (by rw [q3.length]; exact hlt), p3 σ _ ρ3 stc okc⟩
            · exact p3.elim
          · exact p3.elim
        · exact p3.elim
/-! ### walked -/
def iKeysL (td : TE) : TI := fun σ H R => td σ H fun x H1 => ∃ d kvs, x = V.ref d ∧ ((H1 d = some (.dK kvs) ∧ ∀ o, R (Itk d o kvs) (upd H1 d (.frz o (.dK kvs)))) ∨ ∃ o, H1 d = some (.frz o (.dK kvs)) ∧ R (Itk d o kvs) H1)
theorem pi_keysL {tg e : Expr} {td : TE} (he : PE X e td) : PI X tg e (iKeysL td) := by
  refine ⟨fun pins s σ H R I h => ?_⟩
  refine thn (he.run pins s σ H _ I h) fun u s1 ⟨x, H1, I1, rx, d, kvs, ex, q⟩ => ?_
  subst ex
  obtain rfl : u = Value.ref d := rx
  have go : ∀ {o : Obj} {H2 : Hp}, Inv X pins σ H2 s1 → H2 d = some (.frz o (.dK kvs)) → R (Itk d o kvs) H2 → wpAny (model X.prog X.w) X.A (pyIter (.ref d)) (PIE X pins σ tg R) X.xe s1 := fun {o H2} I2 hd q => by
    obtain ⟨hs, hgd, hx, es, ep, vs, hdt, hsz, kv, hm⟩ := I2.frzK hd
    refine iter_keys hs hgd hx hdt (pi_one (tk := s1.toks) I2 _ (turn_keys _ hdt) ⟨_, Heap.get?_push_size _ rfl, rfl, ?_⟩ q)
    rw [hsz] <;> rfl
  rcases q with ⟨hd, q⟩ | ⟨o, hd, q⟩
  · obtain ⟨od, I2⟩ := I1.lock hd trivial
    exact go I2 upd_same (q od)
  · exact go I1 hd q
def lD (f : EF) : LF := fun s μ => (f s μ).bindL fun r μ1 => match r with
  | .val (.dct kvs) => .ok (kvs.map fun kv => keyD kv.1) μ1
  | .newD kvs => .ok (kvs.map fun kv => keyD kv.1) μ1
  | _ => .bad
theorem keyD_rep {K : PySem.W.Frag} {H : Hp} (k : Key) : Rep K H (keyD k) (kV k) := by
  cases k with
  | inl i => exact .int i
  | inr x => exact .str x
theorem src_keys {a : Addr} {o : Obj} {ds : List (Key × D)} {vs : List (Key × V)} (hk : vs.map (·.1) = ds.map (·.1)) : SrcOk c (Itk a o vs) (ds.map fun kv => keyD kv.1) (fun ρ H => hid H ρ a = some (.frz o (.dK vs))) where
  stay := fun ρ H x ρ' H' h st => st.weak.keepX.at h (fun _ z => nomatch z) (fun _ z => nomatch z)
  stop := fun ρ H h => ⟨(hid_some.mp h).2, by
    have := congrArg List.length hk
    rw [List.length_map, List.length_map] at this
    rw [List.length_map]; omega⟩
  go := fun ρ H i h hi => ⟨(hid_some.mp h).2, by
    have := congrArg List.length hk
    rw [List.length_map, List.length_map] at this
    rw [List.length_map] at hi; omega⟩
  yld := fun ρ s μ σ H i d x H' ok h hd ⟨e, k, v, hkv, hx⟩ => by
    subst e; subst hx
    refine ⟨.refl, ok, ?_⟩
    have e1 : (vs.map (·.1))[i]? = some k := by rw [List.getElem?_map, hkv]; rfl
    rw [hk, List.getElem?_map] at e1
    rw [List.getElem?_map] at hd
    cases q : ds[i]? with
    | none => rw [q] at hd; cases hd
    | some kv =>
      rw [q] at hd e1
      have e1 : kv.1 = k := Option.some.inj e1
      have hd : keyD kv.1 = d := Option.some.inj hd
      rw [← hd, ← e1]
      exact keyD_rep _
theorem Ok.lock {ρ : List Addr} {s : Sl} {μ : Mu} {σ : St} {H : Hp} {a : Addr} {o : Obj} {vs : List (Key × V)} (k : Ok c ρ [] s μ σ H) (h : hid H ρ a = some (.dK vs)) :
    StepX ρ H [] ρ (upd H a (.frz o (.dK vs))) ∧ Ok c ρ [] s μ σ (upd H a (.frz o (.dK vs))) := by
  obtain ⟨h1, h2⟩ := hid_some.mp h
  have gr : ∀ b, H b ≠ none → upd H a (.frz o (.dK vs)) b ≠ none := fun b h => by unfold upd; split <;> simp [h]
  have kx : KeepX (hid H ρ) (hid (upd H a (.frz o (.dK vs))) ρ) := fun b u e n => by
    obtain ⟨e1, e2⟩ := hid_some.mp e
    by_cases hb : b = a
    · subst hb
      rw [h2] at e2; cases e2
      exact .inr ⟨vs, o, rfl, hid_some.mpr ⟨e1, upd_same⟩⟩
    · exact .inl (hid_some.mpr ⟨e1, by rw [upd_ne hb]; exact e2⟩)
  refine ⟨⟨.refl, by simpa using kx, gr⟩, k.move (x' := []) (by simpa using kx.keep) (fun b hb => upd_ne fun z => by rw [z] at hb; exact h1 hb) gr (tabs_upd k.g.tabs h2 (fun ps z => nomatch z) (fun φ z => nomatch z))⟩
theorem dl_keys {tg e : Expr} {fe : EF} (he : PE X e (tD c W fe)) : PI X tg e (tL c W (lD fe)) := (pi_keysL he).imp fun σ H R q =>
  tD_bindL (g := fun s r μ1 => match r with | .val (.dct kvs) => .ok (kvs.map fun kv => keyD kv.1) μ1 | .newD kvs => .ok (kvs.map fun kv => keyD kv.1) μ1 | _ => .bad)
    (k := fun σ x H1 R => ∃ d kvs, x = V.ref d ∧ ((H1 d = some (.dK kvs) ∧ ∀ o, R (Itk d o kvs) (upd H1 d (.frz o (.dK kvs)))) ∨ ∃ o, H1 d = some (.frz o (.dK kvs)) ∧ R (Itk d o kvs) H1)) (fun ρ s μ σ H r v R rep p => by
    have key : ∀ {ds : List (Key × D)}, Rep c.K (hid H ρ) (.dct ds) v → (∀ J H' ρ' G, StepX ρ H [] ρ' H' → Ok c ρ' [] s μ σ H' → G ρ' H' → SrcOk c J (ds.map fun kv => keyD kv.1) G → R J H') →
        ∃ d kvs, v = V.ref d ∧ ((H d = some (.dK kvs) ∧ ∀ o, R (Itk d o kvs) (upd H d (.frz o (.dK kvs)))) ∨ ∃ o, H d = some (.frz o (.dK kvs)) ∧ R (Itk d o kvs) H) := fun {ds} t p => by
      have ok := rep.ok
      cases t with
      | dct h r =>
        rename_i a vs
        have hk := r.keys
        rcases h with h | ⟨o, h⟩
        · refine ⟨a, vs, rfl, .inl ⟨(hid_some.mp h).2, fun o => ?_⟩⟩
          obtain ⟨st, ok'⟩ := ok.lock (o := o) h
          exact p _ _ ρ _ st ok' (hid_some.mpr ⟨(hid_some.mp h).1, upd_same⟩) (src_keys hk)
        · exact ⟨a, vs, rfl, .inr ⟨o, (hid_some.mp h).2, p _ H ρ _ .refl ok h (src_keys hk)⟩⟩
    split at p
    · rename_i ds' μ' e
      split at e
      · cases e; exact key rep.tmp p
      · cases e; exact key rep.tmp p
      · cases e
    · rename_i e
      split at e <;> cases e
    · exact p.elim) σ H R q
/-! ### displayed -/
def eDnew : EF := fun _ μ => .ok (.newD []) μ
theorem de_dnew {pos : Pos} : PE X (.Dict [] [] pos) (tD c W eDnew) := pe_dnewK.imp fun σ H Q q => by
  obtain ⟨ρ, s, μ, ok, p⟩ := q
  exact Post.newD p ok .nil
def aAll : List EF → AF
  | [] => aNil
  | f :: fs => aCons f (aAll fs)
def eDisp (l : List (Key × EF)) : EF := fun s μ => match aAll (l.map (·.2)) s (μ ++ [.dct []]) with
  | .ok rs μ1 => match datas μ1 rs, μ1[μ.length]? with
    | some ds, some (.dct []) => if ds.length ≤ 15 then .ok (.newD (mergeD [] ((l.map (·.1)).zip ds))) (μ1.take μ.length) else .bad
    | _, _ => .bad
  | _ => .bad
def prs (c : Cc) (W : WX) (l : List (Key × EF)) : List (TE × TE) := l.map fun p => (tC (kV p.1), tD c W p.2)
theorem dpp_nil {pos : Pos} : PPs X pos [] [] (prs c W []) := pps_nil
theorem dpp_cons {pos : Pos} {k v : Expr} {ks : List (Option Expr)} {vs : List Expr} {key : Key} {f : EF} {l : List (Key × EF)} (hk : PE X k (tC (kV key))) (hv : PE X v (tD c W f)) (hr : PPs X pos ks vs (prs c W l)) : PPs X pos (some k :: ks) (v :: vs) (prs c W ((key, f) :: l)) := pps_cons hk hv hr
theorem Post.mono {ρ : List Addr} {H : Hp} {s : Sl} {σ : St} {Q Q' : VK} (h : ∀ v H, Q v H → Q' v H) : ∀ {r : Res}, Post c W ρ H s σ Q r → Post c W ρ H s σ Q' r
  | .ok _ _, p => fun v H' ρ' st rep => h _ _ (p v H' ρ' st rep)
  | .exc _ _, p => p
  | .bad, p => p
theorem tD_mono {f : EF} {σ : St} {H : Hp} {Q Q' : VK} (h : ∀ v H, Q v H → Q' v H) (q : tD c W f σ H Q) : tD c W f σ H Q' := by
  obtain ⟨ρ, s, μ, ok, p⟩ := q
  exact ⟨ρ, s, μ, ok, p.mono h⟩
theorem pairs_of : ∀ (l : List (Key × EF)) (σ : St) (H : Hp) (Q : List V → Hp → Prop) (Q' : List (V × V) → Hp → Prop), tA c W (aAll (l.map (·.2))) σ H Q → (∀ vs H', vs.length = l.length → Q vs H' → Q' (((l.map (·.1)).zip vs).map fun kv => (kV kv.1, kv.2)) H') → tPairs (prs c W l) σ H Q'
  | [], σ, H, Q, Q', q, h => by
    obtain ⟨ρ, s, μ, ok, p⟩ := q
    exact h [] H rfl (p [] H ρ .refl .nil ok)
  | (k, f) :: l, σ, H, Q, Q', q, h => by
    show tC (kV k) σ H fun x H1 => tD c W f σ H1 fun y H2 => tPairs (prs c W l) σ H2 fun ps H3 => Q' ((x, y) :: ps) H3
    show tD c W f σ H fun y H2 => tPairs (prs c W l) σ H2 fun ps H3 => Q' ((kV k, y) :: ps) H3
    exact tD_mono (fun v H1 q1 => pairs_of l σ H1 (fun xs H2 => Q (v :: xs) H2) _ q1 fun vs H' hl q2 => h (v :: vs) H' (by simp [hl]) q2) (tA_cons q)
theorem de_disp {pos : Pos} {keys : List (Option Expr)} {values : List Expr} {l : List (Key × EF)} (h : PPs X pos keys values (prs c W l)) (hall : keys.all (·.isSome) = true := by rfl) (hl : keys.length = values.length := by rfl) (h0 : keys ≠ [] := by simp) (h15 : keys.length ≤ 15 := by decide) :
    PE X (.Dict keys values pos) (tD c W (eDisp l)) := (pe_disp h hall hl h0 h15).imp fun σ H Q q => by
  obtain ⟨ρ, s, μ, ok, p⟩ := q
  intro a ha
  have fr := ok.fresh ha
  have hl1 : μ.length = ρ.length := ok.g.len.symm
  have ok2 := (ok.alloc (o := .dK []) ha).join fr.1 (by rw [upd_same]; simp) fr.2 (m := .dct []) ⟨[], upd_same, .nil⟩
  have st2 : StepX ρ H [] (ρ ++ [a]) (upd H a (.dK [])) := StepX.join (StepX.allocX ha)
  have ak : (ρ ++ [a])[μ.length]? = some a := by rw [hl1, List.getElem?_append_right (Nat.le_refl _)]; simp
  unfold eDisp at p
  refine pairs_of l σ _ (fun vs H2 => H2 a = some (.dK []) ∧ vs.length ≤ 15 ∧ Q (.ref a) (upd H2 a (.dK (mergeK [] ((l.map (·.1)).zip vs))))) _ ⟨ρ ++ [a], s, μ ++ [.dct []], ok2, ?_⟩ fun vs H' hv q => ⟨q.1, (l.map (·.1)).zip vs, rfl, by rw [List.length_zip]; omega, q.2.2⟩
  cases e : aAll (l.map (·.2)) s (μ ++ [.dct []]) with
  | exc C μ1 => rw [e] at p; exact p.elim
  | bad => rw [e] at p; exact p.elim
  | ok rs μ1 =>
    rw [e] at p
    intro vs H2 ρ2 st3 tm ok3
    dsimp only at p
    split at p
    · rename_i ds hds hm
      split at p
      · rename_i h15
        have r := datas_ok tm hds
        have ak2 := st3.ext.get ak
        obtain ⟨vs0, q1, q2⟩ := ok3.g.objs _ _ _ ak2 hm
        cases q2
        refine ⟨q1, by rw [r.length]; exact h15, ?_⟩
        obtain ⟨t, rfl⟩ := st3.ext
        have st5 := st2.trans st3
        have e5 : ρ ++ [a] ++ t = ρ ++ ([a] ++ t) := List.append_assoc _ _ _
        rw [e5] at ok3 st5 r
        generalize hvs : mergeK [] ((l.map (·.1)).zip vs) = mv
        have rm : RepK c.K (hid H2 (ρ ++ ([a] ++ t))) (mergeD [] ((l.map (·.1)).zip ds)) mv := by rw [← hvs]; exact RepK.merge (RepK.zip r) .nil
        have sub : ∀ {O : List Addr}, a ∈ O → (∀ b ∈ O, b ∈ ρ ++ ([a] ++ t)) → KeepX (hid H2 (ρ ++ ([a] ++ t))) (hid (upd H2 a (.dK mv)) O) := fun {O} hO hsub => .of fun b o hb => by
          obtain ⟨h1, h2⟩ := hid_some.mp hb
          have nb : b ≠ a := fun z => by subst z; exact h1 (by simp)
          exact hid_some.mpr ⟨fun z => h1 (hsub b z), by rw [upd_ne nb]; exact h2⟩
        have gr : ∀ b, H2 b ≠ none → upd H2 a (.dK mv) b ≠ none := fun b h => by unfold upd; split <;> simp [h]
        have m1 : ∀ b ∈ [a] ++ ρ, b ∈ ρ ++ ([a] ++ t) := fun b hb => by
          simp at hb ⊢
          rcases hb with rfl | hb <;> simp [*]
        refine p (.ref a) (upd H2 a (.dK mv)) ρ ⟨.refl, st5.keepX.trans (sub (by simp [xo]) m1), fun b hb => gr b (st5.grow b hb)⟩
          ⟨a, mv, rfl, upd_same, fr.1, fr.2, rm.keep (sub (by simp) m1).keep, ⟨?_, ?_, fun b hb => gr b (st5.grow b (ok.dom b hb)), ok.new, ok.le⟩⟩
        · have g1 : OkG c.K c.T ρ [a] (μ1.take μ.length) H2 := by
            rw [hl1]
            exact OkG.cut ok3.g fun b hb => .inr (by simp at hb; subst hb; simp)
          have ke : hid (upd H2 a (.dK mv)) ([a] ++ ρ) = hid H2 ([a] ++ ρ) := by
            funext b
            by_cases h : b ∈ [a] ++ ρ
            · rw [hid_in h, hid_in h]
            · rw [hid_out h, hid_out h, upd_ne fun z => by subst z; exact h (by simp)]
          refine ⟨g1.len, g1.nd, fun b hb => gr b (g1.live b hb), fun i b m h1 h2 => ?_, tabs_upd g1.tabs q1 (fun ps z => nomatch z) (fun φ z => nomatch z)⟩
          have hb : b ≠ a := fun z => by subst z; exact fr.1 (List.mem_of_getElem? h1)
          rw [ke]
          exact (g1.objs i b m h1 h2).keep (Keep.refl _) (upd_ne hb)
        · exact ok.sl.keep .refl (by simpa using (st5.keepX.trans (sub (O := [a] ++ ρ) (by simp) m1)).keep)
      · exact p.elim
    · exact p.elim
end
end Dl

namespace Dl
open PySem PySem.Spec PyProof.Rows L2 HotX L2H
/-! ### while an exception is handled: a list's and a tuple's end -/
section
variable {prog : Program} {w : World} {A : Around} {E : Value → Shared → Prop} {s : Shared}
theorem next_tuple_end_hot {it t x1 : Addr} {i : Nat} {items} {Q : Option Value → Shared → Prop} (hot : HotAt A x1 s.heap) (hx1 : x1 ≠ it)
    (hit : IsTupIter s.heap it t i) (ht : IsTup s.heap t items) (hx : items[i]? = none)
    (hQ : ∀ h', Heap.ExtBut it s.heap h' → Q none { s with heap := h' }) : wpAny (model prog w) A (pyNext (.ref it)) Q E s := by
  obtain ⟨o, ho, hc, hd⟩ := id hit
  obtain ⟨ol, hol, _, nl, hdl⟩ := ht
  obtain ⟨hh, o1, vs1, h1, d1, c1⟩ := hot
  unfold pyNext
  refine wpAny_bind (wpAny_attempt (wpAny_callSpecial?_slot (name := Str.ofString "__next__") hit.typeIs slot_tupleiter_next
    (wpAny_call_entry slot_tupleiter_next hit.typeIs entry_tupleiter_next ?_ (args_tupleiter_next _))))
  show wpAny _ _ (field (.ref it) 0 >>= _) _ _ s
  refine wpAny_bind (wpAny_field ho hd (x := .ref t) rfl ?_)
  show wpAny _ _ (if (Value.ref t == Value.none) = true then _ else _) _ _ s
  rw [if_neg (show ¬ ((Value.ref t == Value.none) = true) from Bool.false_ne_true)]
  show wpAny _ _ (field (.ref it) 1 >>= _) _ _ s
  refine wpAny_bind (wpAny_field ho hd (x := .int i 0) rfl ?_)
  show wpAny _ _ (seqItems? (.ref t) >>= _) _ _ s
  refine wpAny_bind (wpAny_seqItems hol hdl ?_)
  simp only [Int.toNat_natCast, hx]
  refine wpAny_bind (wpAny_rule (wpAny_bind (wpAny_setField ho hd (by simp) ?_)))
  have h1' : ∀ f, (s.heap.update it f).get? x1 = some o1 := fun f => by rw [Heap.get?_update_other _ _ (Ne.symm hx1)]; exact h1
  show wpAny _ _ (newExc (.type "StopIteration") [] >>= _) _ _ _
  refine wpAny_bind ?_
  simp only [newExc, newTuple]
  refine wpAny_bind (wpAny_newObj_type ?_ (by size_fits))
  refine wpAny_bind (m := firstArgMember _ _) (wpAny_of_eq (a := Value.none) (by first | rfl | (simp only [firstArgMember]; rfl)) ?_)
  refine wpAny_newObj_type ?_ (by size_fits)
  refine raiseNew_hot ⟨hh, o1, vs1, Heap.get?_push_of_some _ (Heap.get?_push_of_some _ (h1' _)), d1, c1⟩ (Nat.ne_of_lt (Heap.lt_size (Heap.get?_push_of_some _ (h1' _)))) (Heap.get?_push_size _ rfl) rfl (by first | (simp; done) | (simp; omega) | (simp only [Array.size_append]; simp; omega)) ?_
  refine wpAny_bind (wpAny_isInstance (T := "StopIteration") (b := true) ⟨_, Heap.get?_update_self _ (Heap.get?_push_size _ rfl) rfl, rfl⟩ isSubtype_stop ?_)
  refine wpAny_pure (hQ _ fun b o hb e => ?_)
  have e' : ∀ f, (s.heap.update it f).get? b = some o := fun f => by rw [Heap.get?_update_other _ _ (Ne.symm hb)]; exact e
  rw [Heap.get?_update_other _ _ (Nat.ne_of_gt (Heap.lt_size (Heap.get?_push_of_some _ (e' _))))]
  exact Heap.get?_push_of_some _ (Heap.get?_push_of_some _ (e' _))
theorem next_list_end_hot {it t x1 : Addr} {i : Nat} {items} {Q : Option Value → Shared → Prop} (hot : HotAt A x1 s.heap) (hx1 : x1 ≠ it)
    (hit : s.heap.IsListIter it t i) (ht : s.heap.IsList t items) (hx : items[i]? = none)
    (hQ : ∀ h', Heap.ExtBut it s.heap h' → Q none { s with heap := h' }) : wpAny (model prog w) A (pyNext (.ref it)) Q E s := by
  obtain ⟨o, ho, hc, hd⟩ := id hit
  obtain ⟨ol, hol, _, nl, hdl⟩ := ht
  obtain ⟨hh, o1, vs1, h1, d1, c1⟩ := hot
  unfold pyNext
  refine wpAny_bind (wpAny_attempt (wpAny_callSpecial?_slot (name := Str.ofString "__next__") hit.typeIs slot_listiter_next
    (wpAny_call_entry slot_listiter_next hit.typeIs entry_listiter_next ?_ (args_listiter_next _))))
  show wpAny _ _ (field (.ref it) 0 >>= _) _ _ s
  refine wpAny_bind (wpAny_field ho hd (x := .ref t) rfl ?_)
  show wpAny _ _ (if (Value.ref t == Value.none) = true then _ else _) _ _ s
  rw [if_neg (show ¬ ((Value.ref t == Value.none) = true) from Bool.false_ne_true)]
  show wpAny _ _ (field (.ref it) 1 >>= _) _ _ s
  refine wpAny_bind (wpAny_field ho hd (x := .int i 0) rfl ?_)
  show wpAny _ _ (seqItems? (.ref t) >>= _) _ _ s
  refine wpAny_bind (wpAny_seqItems hol hdl ?_)
  simp only [Int.toNat_natCast, hx]
  refine wpAny_bind (wpAny_rule (wpAny_bind (wpAny_setField ho hd (by simp) ?_)))
  have h1' : ∀ f, (s.heap.update it f).get? x1 = some o1 := fun f => by rw [Heap.get?_update_other _ _ (Ne.symm hx1)]; exact h1
  show wpAny _ _ (newExc (.type "StopIteration") [] >>= _) _ _ _
  refine wpAny_bind ?_
  simp only [newExc, newTuple]
  refine wpAny_bind (wpAny_newObj_type ?_ (by size_fits))
  refine wpAny_bind (m := firstArgMember _ _) (wpAny_of_eq (a := Value.none) (by first | rfl | (simp only [firstArgMember]; rfl)) ?_)
  refine wpAny_newObj_type ?_ (by size_fits)
  refine raiseNew_hot ⟨hh, o1, vs1, Heap.get?_push_of_some _ (Heap.get?_push_of_some _ (h1' _)), d1, c1⟩ (Nat.ne_of_lt (Heap.lt_size (Heap.get?_push_of_some _ (h1' _)))) (Heap.get?_push_size _ rfl) rfl (by first | (simp; done) | (simp; omega) | (simp only [Array.size_append]; simp; omega)) ?_
  refine wpAny_bind (wpAny_isInstance (T := "StopIteration") (b := true) ⟨_, Heap.get?_update_self _ (Heap.get?_push_size _ rfl) rfl, rfl⟩ isSubtype_stop ?_)
  refine wpAny_pure (hQ _ fun b o hb e => ?_)
  have e' : ∀ f, (s.heap.update it f).get? b = some o := fun f => by rw [Heap.get?_update_other _ _ (Ne.symm hb)]; exact e
  rw [Heap.get?_update_other _ _ (Nat.ne_of_gt (Heap.lt_size (Heap.get?_push_of_some _ (e' _))))]
  exact Heap.get?_push_of_some _ (Heap.get?_push_of_some _ (e' _))
/-- (a, b, ..) = a tuple, while an exception is handled -/
theorem unpackItems_tuple_hot {t x1 : Addr} {items : Array Value} {Q : List Value → Shared → Prop} (hot : HotAt A x1 s.heap) (ht : IsTup s.heap t items)
    (hQ : ∀ h', Heap.ExtBut s.heap.objs.size s.heap h' → Q items.toList { s with heap := h' }) : wpAny (model prog w) A (unpackItems (.ref t) items.size none) Q E s := by
  have hlt : t ≠ s.heap.objs.size := by obtain ⟨o, ho, _⟩ := ht; exact Nat.ne_of_lt (Heap.lt_size ho)
  obtain ⟨hh, o1, vs1, h1, d1, c1⟩ := hot
  have hx1 : x1 ≠ s.heap.objs.size := Nat.ne_of_lt (Heap.lt_size h1)
  unfold unpackItems
  refine wpAny_bind ?_
  · unfold notIterableAtAll
    refine wpAny_bind (wpAny_specialOf ht.typeIs slot_tuple_iter.lookup ?_)
    refine wpAny_pure ?_
    simp only [Bool.false_eq_true, if_false]
    refine wpAny_bind (wpAny_holding (iter_tuple ht ?_))
    refine wpAny_bind (wpAny_holding (draw_tuple hlt items.size 0 _ _ ⟨_, Heap.get?_push_size _ rfl, rfl, rfl⟩ (ht.push _) (by omega) fun h₁ hit₁ hs₁ => ?_))
    have hall : List.take items.size (List.drop 0 items.toList) = items.toList := by
      rw [List.drop_zero]; exact List.take_of_length_le (by simp)
    rw [hall]
    rw [if_neg (by simp)]
    have ht₁ : IsTup h₁ t items := (ht.push _).extBut hs₁.extBut hlt
    refine wpAny_bind (wpAny_holding (next_tuple_end_hot ⟨hh, o1, vs1, hs₁.extBut x1 o1 hx1 (Heap.get?_push_of_some _ h1), d1, c1⟩ hx1 hit₁ ht₁ (by simp) fun h₂ he₂ => ?_))
    simp only [Option.isSome_none, Bool.false_eq_true, if_false]
    refine wpAny_pure (hQ h₂ fun b o hb e => he₂ b o hb (hs₁.extBut b o hb (Heap.get?_push_of_some _ e)))
theorem assign_tuple_hot {x1 : Addr} {env : Env} {elts : List Expr} {k} {pos : Pos} {t : Addr} {items : Array Value} {Q : Unit → Shared → Prop} (hot : HotAt A x1 s.heap) (ht : IsTup s.heap t items)
    (hn : (assignEach elts env).length = items.size) (hstar : (assignEach elts env).findIdx? (·.1) = none)
    (h : ∀ h', Heap.ExtBut s.heap.objs.size s.heap h' → wpAny (model prog w) A (assignInOrder ((assignEach elts env).map (·.2)) items.toList) Q E { s with heap := h' }) :
    wpAny (model prog w) A (assign (.Tuple elts k pos) env (.ref t)) Q E s := by
  rw [assign_Tuple]
  refine wpAny_bind (wpAny_standAt ?_)
  unfold unpack
  rw [hn, hstar]
  exact wpAny_bind (wpAny_holding (unpackItems_tuple_hot hot ht h))
end
/-! ### a list's comprehension there -/
abbrev blkH (X : Cx) (s : Shared) (H : Hp) (scope : Scope) (cenv : Env) (fp : List Addr) : Cx := (X.blk s H scope cenv fp).tr X.pn (fun _ _ => False)
theorem turn_listH {P : Program} {w : World} {K : PySem.W.Frag} {tg : Expr} (a it : Addr) : TurnH P w K tg (Itl K a) [it] it (fun i h => h.IsListIter it a i) where
  mem := by simp
  obj := fun i h st b hb => by
    obtain rfl : b = it := by simpa using hb
    obtain ⟨o, e, c, d⟩ := st
    exact ⟨o, e, fun v z => by rw [d] at z; cases z⟩
  keep := fun i h h' st k => st.at fun o e => k it (by simp) o e
  item := by
    intro X hP hw hK _ i pins s σ H E I hf st ⟨xs, x, hq, hx⟩
    subst hP hw hK
    obtain ⟨its, rv, p, hz⟩ := I.list hq
    obtain ⟨u, hu, ru⟩ := rv.get hx
    have ff := hf it (by simp)
    refine wpAny_pyNext_list_item st p.isList (x := u) (by simpa using hu) fun h' st' sb => ?_
    have I1 : Inv X pins σ H { s with heap := h' } := I.turned (t' := s.toks) (fun b o hb e => (sb.2 b hb).trans e) ff.1 ff.2.1 ff.2.2.2.1 ff.2.2.2.2.1 ff.2.2.2.2.2
    obtain ⟨o, e, c, d⟩ := id st'
    exact ⟨u, rfl, go_of (s := { s with heap := h' }) e c d (by decide) ⟨x, H, I1, ru, ⟨rfl, fun ys hy => by rw [I.list_inj hy hq]; exact hx⟩, st', fun b hb => (hf b hb).1⟩⟩
  done := by
    intro X hP hw hK hc i pins s σ H E I hf st ⟨xs, hq, hx⟩
    subst hP hw hK
    obtain ⟨its, rv, p, hz⟩ := I.list hq
    have ff := hf it (by simp)
    have hl := rv.length
    obtain ⟨q, hot, hm⟩ := hc
    have P1 := I.pin q (List.mem_append_left _ hm)
    obtain ⟨hh, v1, e1, c1⟩ := hot
    exact next_list_end_hot ⟨hh, q.2, v1, P1.1, e1, c1⟩ (ff.2.2.2.2.2 q (List.mem_append_left _ hm)) st p.isList (by simp; omega) fun h' eb => ⟨rfl, I.turned (t' := s.toks) (fun b o hb e => eb b o hb e) ff.1 ff.2.1 ff.2.2.2.1 ff.2.2.2.2.1 ff.2.2.2.2.2⟩
  self := fun _ _ _ _ _ st h => wpAny_pyIter_listiter st h
section
variable {X : Cx} {tg : Expr} {pos : Pos}
theorem pi_listH {l : Expr} {tl : TE} (hl : PE X l tl) : PIH X tg l (fun σ H R => tl σ H fun x H1 => ∃ a, x = V.ref a ∧ (∃ xs, SqL X.K H1 a xs) ∧ R (Itl X.K a) H1) := by
  refine ⟨fun pins s σ H R I h => thn (hl.run pins s σ H _ I h) fun v s1 ⟨x, H1, I1, r1, a, e, ⟨xs, hq⟩, q⟩ => ?_⟩
  subst e
  cases r1
  obtain ⟨its, rv, p, hz⟩ := I1.list hq
  refine wpAny_pyIter_list p.isList ⟨s1.heap.objs.size, [s1.heap.objs.size], _, _, H1, rfl, I1.kept (t' := s1.toks) fun b o e => Heap.get?_push_of_some _ e, turn_listH a _, ⟨_, Heap.get?_push_size _ rfl, rfl, rfl⟩, fun b hb => ?_, q⟩
  obtain rfl : b = s1.heap.objs.size := by simpa using hb
  exact I1.fpOk (Nat.le_refl _) (I1.hok.fresh (Nat.le_refl _))
theorem pg_tupH {es : List Expr} {k : Nat} {t : TGs} {n : Nat} (hc : HotC X) (h : PGs X es t) (hn : (assignEach es X.env).length = n := by rfl) (hst : (assignEach es X.env).findIdx? (·.1) = none := by rfl) : PG X (.Tuple es k pos) (gTup X.K n t) := by
  refine ⟨fun pins s σ H v u Q I r ⟨a, xs, e1, hq, hl, hw⟩ => ?_⟩
  subst e1
  cases r
  obtain ⟨its, rv, ht, hz⟩ := I.tuple hq
  obtain ⟨x1, hot⟩ := hc.at I
  refine assign_tuple_hot hot ht (by simp [hn, ← hl, rv.length]) hst fun h' hx => ?_
  exact h.run pins _ σ H xs _ Q (I.kept (t' := s.toks) fun b o e => hx b o (Nat.ne_of_lt (Heap.lt_size e)) e) (by simpa using rv) hw
theorem pe_lcH {elt tg iter : Expr} {ifs : List Expr} {scope : Scope} {own : List (Str × Nat)} {wi : TI} {g : TG} {tt : TT} {te : TE} (hc : HotC X) (hN : X.N.Nodup) (hi : PIH X tg iter wi) (ok : BlkOk X.N X.env.scope scope own)
    (hg : ∀ s H C cl fp, PG (blkH X s H scope (compEnvC scope cl C X.env) fp) tg g) (ht : ∀ s H C cl fp, PTs (blkH X s H scope (compEnvC scope cl C X.env) fp) ifs tt) (he : ∀ s H C cl fp, PE (blkH X s H scope (compEnvC scope cl C X.env) fp) elt te)
    (hs : ∀ x, foldedSetIterable iter X.env x = pure x := by intro _; rfl) : PE X (.ListComp elt [⟨tg, iter, ifs, 0⟩] scope pos) (tLc wi g tt te (own.map (·.2))) := by
  refine ⟨fun pins s σ H Q I h => ?_⟩
  rw [eval_ListComp]
  have hfree : ∀ y ∈ scope.names, y.2 = .free → ∃ c, X.env.cells.lookup y.1 = some c := fun y hy e => (ok.free y hy e).elim (fun k => I.ok.has _ (.inl k)) fun k => I.ok.has _ (.inr k)
  refine wpAny_comprehension_free rfl hs (closure_ok hfree) ok.kind (fun y hy e => by rw [ok.uniq y hy, e]) (thn (hi.run pins s σ H _ I h) fun xv s1 hx => thn hx fun itv s2 ⟨it, fp, tn, J, H2, e, I2, T, st2, f2, q⟩ => ?_)
  subst e
  refine wpAny_newObj_type (newEnv_comp ?_) (by show 0 ≤ sizeLine; decide)
  generalize hD : s2.heap.objs.size = D
  obtain ⟨W, ⟨m0, w0⟩, turn⟩ := q D (I2.hok.fresh (Nat.le_of_eq hD))
  generalize hs3 : ({ s2 with heap := s2.heap.push { cls := .type "list", data := .seq ([] : List Value).toArray } } : Shared) = s3
  have h3 : s3.heap = s2.heap.push { cls := .type "list", data := .seq ([] : List Value).toArray } := by rw [← hs3]
  have I3 : Inv X pins σ (upd H2 D (.lst [])) s3 := by
    rw [← hs3]
    exact I2.laid (t' := s2.toks) (fun b o e => Heap.get?_push_of_some _ e) (Nat.le_of_eq hD) ⟨Nat.zero_le _, [], 0, .nil, by rw [← hD]; exact Heap.get?_push_size _ rfl⟩
  have f3 : ∀ b ∈ fp, FpOk X pins (upd H2 D (.lst [])) b ∧ b < s3.heap.objs.size := fun b hb => by
    obtain ⟨o, e, _⟩ := T.obj _ _ st2 b hb
    have hlt := Heap.lt_size e
    exact ⟨⟨by rw [upd_ne (by rw [← hD]; exact Nat.ne_of_lt hlt)]; exact (f2 b hb).1, (f2 b hb).2⟩, by rw [h3, Heap.size_push]; exact Nat.lt_succ_of_lt hlt⟩
  have st3 : tn 0 s3.heap := T.keep _ _ _ st2 fun b _ o e => by rw [h3]; exact Heap.get?_push_of_some _ e
  have I4 := block_start I3 ok hN f3
  have pg := hg s3 (upd H2 D (.lst [])) s3.heap.objs.size (cellsFrom (s3.heap.objs.size + 1) scope.names (cloFrom X.env.cells scope.names [])) fp
  have pt := ht s3 (upd H2 D (.lst [])) s3.heap.objs.size (cellsFrom (s3.heap.objs.size + 1) scope.names (cloFrom X.env.cells scope.names [])) fp
  have pe := he s3 (upd H2 D (.lst [])) s3.heap.objs.size (cellsFrom (s3.heap.objs.size + 1) scope.names (cloFrom X.env.cells scope.names [])) fp
  have nfp : ∀ b ∈ fp, (upd H2 D (.lst [])) b = none := fun b hb => (f3 b hb).1.1
  show codeAny _ _ (.compStart _ 0 (.ref it) (.ref D) (compEnvC scope (cellsFrom (s3.heap.objs.size + 1) scope.names (cloFrom X.env.cells scope.names [])) s3.heap.objs.size X.env)) (compPost (model X.prog X.w) X.A X.xe none _ (.ref D) s3.heap.objs.size) { s3 with heap := pushCells (s3.heap.push { cls := .type "dict", data := .dict #[] }) scope.names }
  generalize hce : compEnvC scope (cellsFrom (s3.heap.objs.size + 1) scope.names (cloFrom X.env.cells scope.names [])) s3.heap.objs.size X.env = ce at I4 pg pt pe ⊢
  have cL : ce.locals = s3.heap.objs.size := by subst hce; rfl
  generalize hH3 : upd H2 D (.lst []) = H3 at I3 I4 pg pt pe w0 nfp f3
  have kp4 : ∀ b o, s3.heap.get? b = some o → (pushCells (s3.heap.push { cls := .type "dict", data := .dict #[] }) scope.names).get? b = some o := fun b o e => pushCells_keeps _ _ _ _ (Heap.get?_push_of_some _ e)
  have I4' : Inv (blkH X s3 H3 scope ce fp) [] (wipe σ (own.map (·.2))) H3 { s3 with heap := pushCells (s3.heap.push { cls := .type "dict", data := .dict #[] }) scope.names } := by
    refine ⟨I4.ok.toTry _ _, I4.os, I4.bare, I4.base, I4.loc, I4.cell, I4.free, I4.freeC, fun p hp => ?_, I4.hok, I4.len⟩
    have P3 := I3.pin p (List.mem_append_left _ (by simpa using hp))
    refine ⟨kp4 _ _ P3.1, P3.2.1, ?_, fun z => ?_, P3.2.2.2.2⟩
    · show p.1 ≠ ce.locals
      rw [cL]; exact Nat.ne_of_lt (Heap.lt_size P3.1)
    · exact (List.mem_cons.mp (I3.stkSub p.1 z)).elim P3.2.2.1 P3.2.2.2.1
  have hcB : HotC (blkH X s3 H3 scope ce fp) := hc
  generalize hs4 : ({ s3 with heap := pushCells (s3.heap.push { cls := .type "dict", data := .dict #[] }) scope.names } : Shared) = s4 at I4' ⊢
  have st4 : tn 0 s4.heap := T.keep _ _ _ st3 fun b _ o e => by rw [← hs4]; exact kp4 _ _ e
  have stat : ∀ {σ' : St} {H' : Hp} {s' : Shared}, Inv (blkH X s3 H3 scope ce fp) [] σ' H' s' → (∀ b ∈ fp, H' b = none) → ∀ b ∈ fp, FpOk (blkH X s3 H3 scope ce fp) [] H' b := fun {σ' H' s'} I' hn b hb =>
    ⟨hn b hb, (I'.ok.exf b hb).1, I'.ok.exfs b hb, .inl hb, fun x c e => (I'.ok.exf b hb).2 x c e, fun p hp => (f3 b hb).1.2.2.2.2.2 p (List.mem_append_left _ (by simpa using hp))⟩
  have loop : codeAny (model X.prog X.w) X.A (.compLoop (.ListComp elt [⟨tg, iter, ifs, 0⟩] scope pos) 0 (.ref it) (.ref D) ce) (compPost (model X.prog X.w) X.A X.xe none (EP X pins σ Q) (.ref D) s3.heap.objs.size) s4 := by
    refine compLoop_any (fun n s' => ∃ i H', Inv (blkH X s3 H3 scope ce fp) [] (wipe σ (own.map (·.2))) H' s' ∧ tn i s'.heap ∧ (∀ b ∈ fp, H' b = none) ∧ W i n H') ?_ m0 ⟨0, H3, I4', st4, nfp, w0⟩
    rintro n s5 ⟨i, H5, I5, st5, n5, w5⟩
    rcases turn i n H5 w5 with ⟨stop, qq⟩ | ⟨go, Nx, hNx, step⟩
    · refine thnF (T.done (blkH X s3 H3 scope ce fp) rfl rfl rfl hcB i [] s5 _ H5 (fun _ _ => False) I5 (stat I5 n5) st5 stop) fun r s6 ⟨hr, I6⟩ => ?_
      subst hr
      have I7 : Inv X pins σ H5 s6 := I3.call' (ch := fp) I6.os I6.base I6.hok I6.bare fun b hb => ⟨(f3 b hb).1.2.2.2.1, (f3 b hb).1.2.1, (f3 b hb).1.2.2.2.2.1, (f3 b hb).1.2.2.2.2.2⟩
      have nC : H5 s3.heap.objs.size = none := by have z : H5 ce.locals = none := I6.free; rw [cL] at z; exact z
      obtain ⟨m, hn, _⟩ := I6.loc
      have hn : s6.heap.Ns ce.locals m := hn
      rw [cL] at hn
      obtain ⟨g0, g1, g2, g3, g4, g5⟩ := I3.fpOk (Nat.le_refl _) nC
      exact ⟨m, hn, fun h'' sb => ⟨.ref D, H5, I7.turned (t' := s6.toks) (fun b o hb e => (sb.2 b hb).trans e) g0 g1 g3 g4 g5, rfl, qq⟩⟩
    · refine thnF (T.item (blkH X s3 H3 scope ce fp) rfl rfl rfl hcB i [] s5 _ H5 (fun _ _ => False) I5 (stat I5 n5) st5 go) fun r s6 ⟨u, hr, h6⟩ => ?_
      subst hr
      refine thnF h6 fun _ s7 ⟨x, H7, I7, r7, y7, st7, n7⟩ => ?_
      refine thnF (pg.run _ s7 _ H7 x u _ (I7.pinned (stat I7 n7) (T.obj _ _ st7)) r7 (step x H7 y7)) fun _ s8 ⟨σ8, H8, I8, hw8, q8⟩ => ?_
      refine thnF (pt.run _ s8 σ8 H8 _ I8 q8) fun b s9 ⟨H9, I9, q9⟩ => ?_
      have fin : ∀ {s' : Shared} {H' : Hp}, Inv (blkH X s3 H3 scope ce fp) ([] ++ pinsAt fp s7.heap) σ8 H' s' → Nx H' → ∃ m, m < n ∧ ∃ i H', Inv (blkH X s3 H3 scope ce fp) [] (wipe σ (own.map (·.2))) H' s' ∧ tn i s'.heap ∧ (∀ b ∈ fp, H' b = none) ∧ W i m H' := fun {s' H'} I' nx => by
        obtain ⟨m', hm, w'⟩ := hNx H' nx
        have pin' : ∀ b ∈ fp, ∀ o, s7.heap.get? b = some o → s'.heap.get? b = some o ∧ H' b = none := fun b hb o e => by
          have z := I'.pin (b, o) (List.mem_append_right _ (List.mem_append_right _ (mem_pinsAt hb e)))
          exact ⟨z.1, z.2.1⟩
        refine ⟨m', hm, i + 1, H', (I'.unpinned (pins := [])).weak (by rw [← hw8, wipe_length]) (fun j v e => ?_), T.keep _ _ _ st7 fun b hb o e => (pin' b hb o e).1, fun b hb => ?_, w'⟩
        · rw [← hw8] at e; exact (wipe_some e).1
        · obtain ⟨o, e, _⟩ := T.obj _ _ st7 b hb
          exact (pin' b hb o e).2
      cases b with
      | false => simp only [Bool.false_eq_true, if_false] at q9 ⊢; exact fin I9 q9
      | true =>
        simp only [if_true] at q9 ⊢
        refine thnF (pe.run _ s9 σ8 H9 _ I9 q9) fun z s10 ⟨yv, H10, I10, r10, acc, hD10, hz10, nx⟩ => ?_
        exact app_ok (X := blkH X s3 H3 scope ce fp) I10 hD10 hz10 r10 fun s11 I11 => fin I11 nx
  exact codeAny_compStart_list loop (T.self X.A 0 _ _ _ st4 loop)
end
end Dl

namespace Dl
open PySem PySem.Spec PyProof.Rows L2 HotX L2H LamX
/-! ### the exception that is handled -/
/-- the exception at a, of the class C, is handled -/
def HotE (X : Cx) (C a : Addr) : Prop := ∃ oe, (a, oe) ∈ X.pn ∧ X.A.handled = some (.ref a) ∧ L2N.Zn (.ref C) none oe ∧ ∃ vs, oe.data = .fields vs
theorem HotE.hot {X : Cx} {C a : Addr} (h : HotE X C a) : HotC X := by
  obtain ⟨oe, h1, h2, h3, vs, h4⟩ := h
  exact ⟨(a, oe), ⟨h2, vs, h4, h3.2.2 vs h4⟩, h1⟩
theorem call_isH {X : Cx} {C a : Addr} (E : ExcC X.K C) (h : HotE X C a) : CallR X (.builtin "isinstance") (rIsE X.K C a) := by
  obtain ⟨oe, h1, h2, h3, vs, h4⟩ := h
  intro pins s σ H xs us Q I r ⟨c, cv, b, e0, hcv, e, q⟩
  subst e0
  match us, r with
  | [_, _], .cons rx (.cons rt .nil) =>
    cases rx
    obtain rfl := hcv _ rt
    have hget := (I.pin (a, oe) (List.mem_append_left _ h1)).1
    have J : PySem.W.InstAt s.heap a oe C none := by
      obtain ⟨oc, od, oda, osl⟩ := oe
      obtain ⟨z1, z2, _⟩ := h3
      dsimp only at z1 z2 h4
      subst z1 z2 h4
      exact ⟨hget, rfl, rfl, trivial⟩
    exact PySem.W.kia_one (PySem.W.handS_kitx_exc E.hg E.hk E.hs E.hd E.ha E.hn E.ht E.hm) I.kIn J e (fun z => nomatch z) fun tk => ⟨.bl b, H, I.kept (t' := tk) fun _ _ z => z, rfl, q⟩
/-- isinstance(e, D), e at a -/
def isE (kit : Addr → Option Bool) (a : Addr) : List R → Mu → Res := on2 fun x y μ => match x, y with
  | .fn e _, .fn D _ => if e = a then match kit D with
    | some b => .ok (.val (.bl b)) μ
    | none => .bad
    else .bad
  | _, _ => .bad
section
variable {c : Cc} {W : WX} {X : Cx}
theorem c_isE {kit : Addr → Option Bool} {C a : Addr} (hk : ∀ D b, kit D = some b → PySem.W.kitOne c.K (.ref C) (.ref D) = some b) : CallD c W (isE kit a) (rIsE c.K C a) :=
  (cd2 (r := fun x y H Q => ∃ (cv : Value) (b : Bool), x = .ref a ∧ (∀ u, RelV y u → u = cv) ∧ PySem.W.kitOne c.K (.ref C) cv = some b ∧ Q (.bl b) H) fun ρ s μ σ H x y v u d e Q ok t1 t2 e1 e2 p => by
    split at p
    · rename_i e' k1 D k2
      split at p
      · rename_i ha
        subst ha
        split at p
        · rename_i b hb
          have ev := fn_of' t1 e1
          have eu := fn_of' t2 e2
          subst ev; subst eu
          exact ⟨.ref D, b, rfl, fun w h => by cases h; rfl, hk D b hb, p.val ok (.bl _)⟩
        · exact p.elim
      · exact p.elim
    · exact p.elim).imp fun vs H Q ⟨v, u, e, cv, b, h1, h2, h3, q⟩ => ⟨u, cv, b, by rw [e, h1], h2, h3, q⟩
theorem list_imp {fe : EF} (hK : c.K = X.K) (σ : St) (H : Hp) (R : It → Hp → Prop) (q : tL c W (lL fe) σ H R) : tD c W fe σ H fun x H1 => ∃ a, x = V.ref a ∧ (∃ xs, SqL X.K H1 a xs) ∧ R (Itl X.K a) H1 :=
  tD_bindL (g := fun s r μ1 => match r with | .val (.lst ds) => .ok ds μ1 | .newL ds => .ok ds μ1 | _ => .bad) (k := fun σ x H1 R => ∃ a, x = .ref a ∧ (∃ xs, SqL X.K H1 a xs) ∧ R (Itl X.K a) H1) (fun ρ s μ σ H r v R rep p => by
    have key : ∀ {ds : List D}, Rep c.K (hid H ρ) (.lst ds) v → (∀ J H' ρ' G, StepX ρ H [] ρ' H' → Ok c ρ' [] s μ σ H' → G ρ' H' → SrcOk c J ds G → R J H') → ∃ a, v = .ref a ∧ (∃ xs, SqL X.K H a xs) ∧ R (Itl X.K a) H := fun {ds} t p => by
      have ok := rep.ok
      cases t with
      | lst h l r =>
        rw [← hK]
        exact ⟨_, rfl, ⟨_, .of (hid_some.mp h).2⟩, p _ H ρ _ .refl ok ⟨_, h, r⟩ src_list⟩
    split at p
    · rename_i ds' μ' e
      split at e
      · cases e; exact key rep.tmp p
      · cases e; exact key rep.tmp p
      · cases e
    · rename_i e
      split at e <;> cases e
    · exact p.elim) σ H R q
theorem _root_.L2H.PIH.imp {X : Cx} {tg iter : Expr} {t t' : TI} (h : PIH X tg iter t) (k : ∀ σ H R, t' σ H R → t σ H R) : PIH X tg iter t' := ⟨fun pins s σ H R I q => h.run pins s σ H R I (k σ H R q)⟩
theorem dl_listH {tg e : Expr} {fe : EF} (hK : c.K = X.K) (he : PE X e (tD c W fe)) : PIH X tg e (tL c W (lL fe)) := (pi_listH he).imp (list_imp hK)
theorem de_compH {elt tg iter : Expr} {ifs : List Expr} {scope : Scope} {own : List (Str × Nat)} {pos : Pos} {src : LF} {g : TG} {is : List Nat} {tgf : TgF} {t : TF} {f : EF} (hc : HotC X) (hN : X.N.Nodup) (hi : PIH X tg iter (tL c W src)) (ok : BlkOk X.N X.env.scope scope own)
    (gk : GOk c g is tgf) (hsub : ∀ i, i ∈ is → i ∈ own.map (·.2))
    (hg : ∀ s H C cl fp, PG (blkH X s H scope (compEnvC scope cl C X.env) fp) tg g) (ht : ∀ s H C cl fp, PTs (blkH X s H scope (compEnvC scope cl C X.env) fp) ifs (tT c Wn t)) (he : ∀ s H C cl fp, PE (blkH X s H scope (compEnvC scope cl C X.env) fp) elt (tD c Wn f))
    (hs : ∀ x, foldedSetIterable iter X.env x = pure x := by intro _; rfl) :
    PE X (.ListComp elt [⟨tg, iter, ifs, 0⟩] scope pos) (tD c W (eComp src tgf t f (own.map (·.2)))) := (pe_lcH hc hN hi ok hg ht he hs).imp (comp_imp gk hsub)
end
/-! ### a def that is called while an exception is handled -/
structure FnE (P : Program) (w : World) (K : PySem.W.Frag) (mg : Str → Option Value) (base : Heap) (CX : CXT) (k : Nat) (f : Addr) (fd : FuncData) (ps : List Str) (C : Addr) (sp : Addr → Sp) : Prop where
  len : ∀ a vs H Q E, sp a vs H Q E → vs.length = ps.length
  run : ∀ (A : Around) (outer : List Env) (s : Shared) (H : Hp) (args : Args) (us : List Value) (vs : List V) (Q : VK) (E : XK) (p : Addr × Obj), RoomH k A → A.handled = some (.ref p.1) → L2N.Zn (.ref C) none p.2 → (∃ vs, p.2.data = .fields vs) → PinOk outer H s p →
    Env0 P w K mg base A outer s H → BindsTo s fd args (ps.zip us) → Vals vs us → sp p.1 vs H Q E → codeAny (model P w) A (.call (.ref f) args) (CR CX outer P w H s Q E) s
section
variable {K : PySem.W.Frag} {T : List (Addr × Str)}
/-- a def's body from its start -/
theorem start_post {Nl : List Str} {ρ : List Addr} {H : Hp} {rs : List R} {vs : List V} {μ : Mu} {Q : VK} {E : XK} {body : SF} (tm : Tmps K ρ (hid H ρ) rs vs) (g : OkG K T ρ [] μ H) (p : PostF K T ρ H Q E (defF Nl.length body rs μ)) :
    tS ⟨K, T, H, ρ.length⟩ (fun cls d _ H => E cls d H) body { nx := fun _ H' => Q .non H', rt := Q } (L2.start Nl vs) H := by
  refine ⟨ρ, (rs.map fun r => some (norm r)) ++ List.replicate (Nl.length - rs.length) none, μ, ⟨g, ?_, fun a h => h, fun i a h1 h2 => ?_, Nat.le_refl _⟩, ?_⟩
  · have e : L2.start Nl vs = vs.map some ++ List.replicate (Nl.length - rs.length) none := by unfold L2.start; rw [tm.length]
    rw [e]
    exact start_sl _ (by simpa using tm)
  · exact absurd (List.getElem?_eq_some_iff.mp h2).1 (by show ¬ i < ρ.length; have : ρ.length ≤ i := h1; omega)
  · unfold defF at p
    rw [← g.len] at p
    cases e : body ((rs.map fun r => some (norm r)) ++ List.replicate (Nl.length - rs.length) none) μ with
    | nx s1 μ1 =>
      rw [e] at p
      intro σ' H' ρ' st ok'
      exact finR_ok (c := ⟨K, T, H, ρ.length⟩) (r := .val .non) rfl rfl rfl rfl p st ⟨.non, ok'⟩
    | rt r μ1 =>
      rw [e] at p
      intro v H' ρ' s' σ' st rep
      exact finR_ok (c := ⟨K, T, H, ρ.length⟩) rfl rfl rfl rfl p st rep
    | exc C s1 μ1 =>
      rw [e] at p
      intro σ' H' ρ' st ok'
      obtain ⟨t, rfl⟩ := st.ext
      exact p H' ⟨.refl, st.ex.trans (.sub fun a h => by simp at h ⊢; exact .inl h), st.grow⟩ (ok'.g.cut (fun a h => by simp at h))
    | bk s1 μ1 => rw [e] at p; exact p.elim
    | ct s1 μ1 => rw [e] at p; exact p.elim
    | bad => rw [e] at p; exact p.elim
end
section
variable {P : Program} {w : World} {K : PySem.W.Frag} {mg : Str → Option Value} {base : Heap} {T : List (Addr × Str)}
theorem fn_okE {x qual : Str} {st : Stmt} {f C : Addr} {fd : FuncData} {N ps : List Str} {k : Nat} {body : Addr → SF} (F : Fun K x qual st f fd) (S : FnScope N ps (defScope st))
    (h : ∀ (cdv : Value) (A : Around) (outer : List Env) (s : Shared) (H : Hp) (E : XK) (B : Hp) (n : Nat) (p : Addr × Obj), HotE (cxH (L2N.CX P w) P w K mg base N qual (defScope st) f cdv A outer s H E p) C p.1 →
      PSs (cxH (L2N.CX P w) P w K mg base N qual (defScope st) f cdv A outer s H E p) (defBody st) (tS ⟨K, T, B, n⟩ (fun cls d _ H => E cls d H) (body p.1))) (hps : ps.length = 1) :
    FnE P w K mg base (L2N.CX P w) (k + 1) f fd ps C (fun a vs H Q E => vs = [.ref a] ∧ ∃ ρ μ, OkG K T ρ [] μ H ∧ PostF K T ρ H Q E (defF N.length (body a) [.val (.fn a 0)] μ)) := by
  obtain ⟨oc, _, kV, doc, pm, _, cdv, ct, _, rfl, lk, hcd⟩ := F.ex
  have hl0 : ∀ a vs (H : Hp) (Q : VK) (E : XK), (vs = [V.ref a] ∧ ∃ ρ μ, OkG K T ρ [] μ H ∧ PostF K T ρ H Q E (defF N.length (body a) [.val (.fn a 0)] μ)) → vs.length = ps.length := fun a vs H Q E h => by rw [h.1, hps]; rfl
  refine ⟨hl0, fun A outer s H args us vs Q E p hr hh hz hd hpin e0 hb r hsp => ?_⟩
  have hl := hl0 _ _ _ _ _ hsp
  have KX : K.In s.heap := e0.mod.kin.keeps fun b o e => (e0.bs b o e).1
  have lim : s.heap.NoLimit := e0.mod.nolimit.keeps fun b o e => (e0.bs b o e).1
  have hkind : ∀ y ∈ ps.zip us, (defScope st).names.lookup y.1 = some .local ∨ ((defScope st).names.lookup y.1 = some .cell ∧ ((cellsFrom (s.heap.objs.size + 1) (defScope st).names []).lookup y.1).isSome = true) := fun y hy =>
    (S.par y.1 (List.of_mem_zip (a := y.1) (b := y.2) hy).1).imp id fun q => ⟨q, PySem.W.cellsFrom_some _ _ _ (.inl q)⟩
  refine codeAny_call_function hr.depth (KX _ _ lk) rfl S.co S.gen rfl (PySem.W.codeRec_of KX hcd) (hb _ _ _ _ ?_)
  refine wpAny_newFunctionEnv_cells S.kind hkind fun env he s1 x => ?_
  subst he
  refine ⟨lim.keeps x.toInCall.keep, codeAny_func ?_⟩
  have I : Inv (cxH (L2N.CX P w) P w K mg base N qual (defScope st) f cdv A outer s H E p) [] (L2.start N vs) H s1 := inv_startH S hpin e0 hl r x
  obtain ⟨ev, ρ, μ, g, pp⟩ := hsp
  have ht := h cdv A outer s H E H ρ.length p ⟨p.2, List.mem_singleton.mpr rfl, hh, hz, hd⟩
  have hq : tS ⟨K, T, H, ρ.length⟩ (fun cls d _ H => E cls d H) (body p.1) { nx := fun _ H' => Q .non H', rt := Q } (L2.start N vs) H := start_post (by rw [ev]; exact .cons (.fn p.1 0) .nil) g pp
  refine wpAny_mono (ht.run [] s1 (L2.start N vs) H _ I hq) (fun fl s' hs => ?_) fun e s' hs => hs
  have fin : ∀ {σ' : St} {H' : Hp} {v : V} {u : Value}, Inv (cxH (L2N.CX P w) P w K mg base N qual (defScope st) f cdv A outer s H E p) [] σ' H' s' → RelV v u → Q v H' → CE outer P w H s Q u s' :=
    fun {σ' H' v u} J rv q => ⟨v, H', J.os, J.bare, J.base, J.hok, rv, q⟩
  cases fl with
  | ret u =>
    obtain ⟨v, σ', H', J, rv, q⟩ := hs
    exact fin J rv q
  | next =>
    obtain ⟨σ', H', J, q⟩ := hs
    exact fin (v := V.non) (u := Value.none) J rfl q
  | brk => obtain ⟨_, _, _, q⟩ := hs; exact q.elim
  | cont => obtain ⟨_, _, _, q⟩ := hs; exact q.elim
theorem FnE.imp {CX : CXT} {k : Nat} {f C : Addr} {fd : FuncData} {ps : List Str} {sp sp' : Addr → Sp} (F : FnE P w K mg base CX k f fd ps C sp) (h : ∀ a vs H Q E, sp' a vs H Q E → sp a vs H Q E) : FnE P w K mg base CX k f fd ps C sp' :=
  ⟨fun a vs H Q E q => F.len a vs H Q E (h _ _ _ _ _ q), fun A outer s H args us vs Q E p h1 h2 h3 h4 h5 h6 h7 h8 q => F.run A outer s H args us vs Q E p h1 h2 h3 h4 h5 h6 h7 h8 (h _ _ _ _ _ q)⟩
end
section
variable {X : Cx} {k : Nat} {f C a : Addr} {fd : FuncData} {ps : List Str} {sp : Addr → Sp} {x : Str} {q pos : Pos} {e : Expr} {es : List Expr} {t : TA}
/-- such a call; nothing is let out -/
theorem pe_callE (F : FnE X.prog X.w X.K X.mg X.base (L2N.CX X.prog X.w) k f fd ps C sp) (hr : RoomH k X.A) (hc : HotE X C a) (hg : Gl X x) (hm : X.mg x = some (.ref f)) (hk : PySem.W.keepIn X.K (.ref f) = true) (hb : Binds X.K fd ps [])
    (ha : PA X (e :: es) t) (hdb : (x == ("__debug__" : Str)) = false := by decide) (he : starEach (e :: es) X.env = (false, eval e X.env) :: starEach es X.env := by rfl) (hpl : (backTo pos (starEach es X.env)).any (·.1) = false := by rfl) :
    PE X (.Call (.Name x q) (e :: es) [] pos) (fun σ H Q => t σ H fun vs H1 => sp a vs H1 Q fun _ _ _ => False) := by
  obtain ⟨oe, h1, h2, h3, h4⟩ := hc
  refine ⟨fun pins s σ H Q I h => wpAny_Call_Name_kw (ld_glob I hg hm ?_ hdb)⟩
  refine PySem.W.callWith_K (h₀ := X.base) I.ok.mod.kin hk (thn (ha.run pos pins s σ H _ I h) fun us s1 ⟨vs, H1, I1, r, hs⟩ => ⟨I1.kIn, ?_⟩) he hpl
  have hl : us.length = ps.length := by rw [← r.length]; exact F.len _ _ _ _ _ hs
  have b := hb s1 us I1.kIn (by rw [List.append_nil]; exact hl)
  rw [List.append_nil] at b
  have P1 := I1.pin (a, oe) (List.mem_append_left _ h1)
  have hpin : PinOk X.stack H1 s1 (a, oe) := ⟨P1.1, P1.2.1, fun hm => (List.mem_cons.mp (I1.stkSub a hm)).elim P1.2.2.1 P1.2.2.2.1, P1.2.2.2.2⟩
  refine wpAny_call (codeAny_mono (F.run X.A X.stack s1 H1 ⟨us, []⟩ us vs Q (fun _ _ _ => False) (a, oe) hr h2 h3 h4 hpin I1.env0 b r hs) fun r s' hq => ?_)
  cases r with
  | error e => obtain ⟨_, _, _, _, _, _, _, _, _, _, _, _, z⟩ := (show L2N.CX X.prog X.w X.stack H1 s1 (fun _ _ _ => False) e s' from hq); exact z.elim
  | ok fl =>
    cases fl with
    | ret u => exact I1.after hq
    | next => exact False.elim hq
    | brk => exact False.elim hq
    | cont => exact False.elim hq
end
end Dl

namespace Dl
open PySem PySem.Spec PyProof.Rows L2 HotX L2H LamX
/-! ### a lambda is made: nothing that is there goes -/
section
variable {X : Cx} {pins : List (Addr × Obj)} {σ : L2.St} {H : Hp} {s : Shared}
theorem lam_makeG {T : List (Addr × Str)} {c P : Addr} {params : Arguments} {body : Expr} {scope : Scope} {pos : Pos} {E Q : Value → Shared → Prop} (I : Inv X pins σ H s) (TB : TabB X.base X.mg c P) (hcode : X.env.code = .ref c)
    (hm : (P, X.env.qual ++ "<lambda>") ∈ T) (hu : ∀ p ∈ T, p.1 = P → p.2 = X.env.qual ++ "<lambda>") (hT : Tabs T H) (hdef : defaultsOf params X.env = ([], [])) (hfree : ∀ y ∈ scope.names, y.2 = .free → ∃ c, X.env.cells.lookup y.1 = some c)
    (h : ∀ (f c' : Addr) (pm ctv : Value) (H1 : Hp) (s' : Shared), Inv X pins σ H1 s' → ExtN H H1 → (∀ b, H b ≠ none → H1 b ≠ none) → Tabs T H1 →
      s'.heap.get? f = some (PySem.W.kla_obj "<lambda>" (X.env.qual ++ "<lambda>") params body scope (cloFrom X.env.cells scope.names []) pm c' ctv) → H1 f = none → f ∉ frs X.stack → H1 c' = some (CodeO c' (X.env.qual ++ "<lambda>")) → Q (.ref f) s') :
    wpAny (model X.prog X.w) X.A (eval (.Lambda params body scope pos) X.env) Q E s := by
  obtain ⟨ps, hP, ht, ha⟩ := hT _ hm
  have hP' : s.heap.get? P = some { cls := .none, data := .fields ps } := I.hok P _ hP
  have nofr : ∀ f, s.heap.objs.size ≤ f → f ∉ frs X.stack := fun f hf z => (List.mem_cons.mp (I.stkSub _ z)).elim (fun e => by
    have h1 := I.lt
    rw [← e] at h1
    exact absurd hf (Nat.not_le_of_lt h1)) fun e => I.nofs hf e
  refine PySem.W.kla_eval hdef ?_
  cases hc : codeAmong pos ps.toList with
  | some cv =>
    obtain ⟨c', rfl, hco⟩ := ha pos cv hc
    refine PySem.W.kla_makeFunctionHit (mg := X.mg) (c := c) (P := P) (ps := ps) (closure_ok hfree) I.ok.glob (I.mod.glob.keeps I.bk) hcode (TB.code.keeps I.bk) hP' ht hc (TB.bm.keeps I.bk) fun ctv h' tk hx hsz => ?_
    exact h h'.objs.size c' ((X.mg "__name__").getD .none) ctv H _ (I.kept (t' := tk) fun b o e => Heap.get?_push_of_some _ (hx b o e)) (ExtN.refl H) (fun _ z => z) hT (Heap.get?_push_size _ rfl) (I.hok.fresh hsz) (nofr _ hsz) hco
  | none =>
    refine PySem.W.kla_makeFunction (mg := X.mg) (c := c) (P := P) (ps := ps) (closure_ok hfree) I.ok.glob (I.mod.glob.keeps I.bk) hcode (TB.code.keeps I.bk) hP' ht hc TB.gP (TB.bm.keeps I.bk) fun c' ctv h' tk hx hge hlt ⟨c2, oc, vs, t, e2, hoc, hd, hv⟩ htb => ?_
    cases e2
    have hsz : s.heap.objs.size ≤ h'.objs.size := Nat.le_trans hge (Nat.le_of_lt hlt)
    have nC : H c' = none := I.hok.fresh hge
    generalize hnew : #[rawInt pos.line, rawInt pos.col, Value.ref c'] = trip at htb
    have tl : trip.toList = [rawInt pos.line, rawInt pos.col, .ref c'] := by rw [← hnew]
    have I1 := inv_table (t' := tk) (more := trip) (h' := h'.push (PySem.W.kla_obj "<lambda>" (X.env.qual ++ "<lambda>") params body scope (cloFrom X.env.cells scope.names []) ((X.mg "__name__").getD .none) c' ctv)) I hP
      (fun b o hb e => Heap.get?_push_of_some _ (hx b o hb e)) (Heap.get?_push_of_some _ htb) hge ⟨oc, vs, t, Heap.get?_push_of_some _ hoc, hd, hv⟩
    have ePc : P ≠ c' := ne_of_none hP nC
    have atP : upd (upd H P (.tbl (ps ++ trip))) c' (CodeO c' (X.env.qual ++ "<lambda>")) P = some (.tbl (ps ++ trip)) := by rw [upd_ne ePc, upd_same]
    have hE : ExtN H (upd (upd H P (.tbl (ps ++ trip))) c' (CodeO c' (X.env.qual ++ "<lambda>"))) := fun b o e n => by
      have nb : b ≠ P := fun z => by rw [z, hP] at e; exact n ps (Option.some.inj e).symm
      rw [upd_ne (ne_of_none e nC), upd_ne nb]
      exact e
    have gr : ∀ b, H b ≠ none → upd (upd H P (.tbl (ps ++ trip))) c' (CodeO c' (X.env.qual ++ "<lambda>")) b ≠ none := fun b z => by
      unfold upd
      split
      · simp
      · split
        · simp
        · exact z
    refine h h'.objs.size c' ((X.mg "__name__").getD .none) ctv _ _ I1 hE gr (fun p hp => ?_) (Heap.get?_push_size _ rfl) ?_ (nofr _ hsz) upd_same
    · by_cases hb : p.1 = P
      · rw [hu p hp hb, hb]
        refine ⟨_, atP, by rw [Array.toList_append, tl]; exact PySem.TriplesOk_snoc _ _ _ _ ht, fun p' cv hcv => ?_⟩
        rw [Array.toList_append, tl] at hcv
        rcases among_app _ ht hcv with z | z
        · obtain ⟨c0, e1, e2⟩ := ha p' cv z
          exact ⟨c0, e1, hE _ _ e2 codeO_ne⟩
        · exact ⟨c', z, upd_same⟩
      · obtain ⟨qs, a1, a2, a3⟩ := hT p hp
        refine ⟨qs, by rw [upd_ne (ne_of_none a1 nC), upd_ne hb]; exact a1, a2, fun p' cv hcv => ?_⟩
        obtain ⟨c0, e1, e2⟩ := a3 p' cv hcv
        exact ⟨c0, e1, hE _ _ e2 codeO_ne⟩
    · rw [upd_ne (Nat.ne_of_gt hlt), upd_ne (Nat.ne_of_gt (Nat.lt_of_lt_of_le (Heap.lt_size hP') hsz))]
      exact I.hok.fresh hsz
end
/-! ### the lambda is called, errors told with their contexts -/
abbrev lamN (X : Cx) (A : Around) (outer : List Env) (s : Shared) (H : Hp) (E : XK) (scope : Scope) (f c' : Addr) : Cx :=
  (lamCx X A outer s H (fun _ _ _ => False) scope f c').tr [] (fun e s' => wpAny (model X.prog X.w) (A.deeper (lamEnv X scope s.heap.objs.size f c')) (leaving (lamEnv X scope s.heap.objs.size f c') e) (fun _ s'' => L2N.CX X.prog X.w outer H s E e s'') (fun e' s'' => L2N.CX X.prog X.w outer H s E e' s'') s')
section
variable {X : Cx} {pins : List (Addr × Obj)} {σ : L2.St} {H : Hp} {s : Shared}
theorem pe_actN {CXg : CXT} {Eg : XK} {Ng : List Str} {qg : Str} {sg : Scope} {g f c' : Addr} {cdg pm ctv : Value} {params : Arguments} {body : Expr} {scope : Scope} {k i : Nat} {a : Str} {pn : List (Addr × Obj)} {xe : Value → Shared → Prop} {W : WX} {E : XK} {tb : TE} {p1 p2 : Pos}
    (I : Inv X pins σ H s) (L : LamS X.env.scope scope) (hf : s.heap.get? f = some (PySem.W.kla_obj "<lambda>" (X.env.qual ++ "<lambda>") params body scope (cloFrom X.env.cells scope.names []) pm c' ctv)) (hfn : H f = none) (hfr : f ∉ frs X.stack)
    (hbind : bindArgs (PySem.W.kla_fn "<lambda>" (X.env.qual ++ "<lambda>") params body scope (cloFrom X.env.cells scope.names []) pm (.ref c') ctv) ⟨[], []⟩ = pure [])
    (tk : L2N.Takes ((cxOf CXg X.prog X.w X.K X.mg X.base Ng qg sg g cdg X.A X.stack s H Eg).tr pn xe) W) (hW : ∀ cls d σ' H', E cls d H' → W cls d σ' H') (hr : Room (k + 1) (X.A.deeper (envOfC qg sg s.heap.objs.size g cdg)))
    (hbody : ∀ (A : Around) (outer : List Env) (s : Shared) (H : Hp), Room k (A.deeper (lamEnv X scope s.heap.objs.size f c')) → PE (lamN X A outer s H E scope f c') body tb)
    (hN : Ng[i]? = some a) (hv : Vis sg a) (hd : (a == ("__debug__" : Str)) = false := by decide) (hcd : (a == ("__classdict__" : Str)) = false := by decide) :
    PE ((cxOf CXg X.prog X.w X.K X.mg X.base Ng qg sg g cdg X.A X.stack s H Eg).tr pn xe) (.Call (.Name a p1) [] [] p2)
      (fun σZ HZ Q => σZ[i]? = some (some (.ref f)) ∧ HZ c' = some (CodeO c' (X.env.qual ++ "<lambda>")) ∧ tb σ HZ Q) := by
  refine ⟨fun pinsZ sZ σZ HZ Q IZ ⟨hs, hc, ht⟩ => ?_⟩
  refine wpAny_Call_Name_kw (thn ((pe_var (pos := p1) (i := i) hN hv hd hcd).run pinsZ sZ σZ HZ (fun v H1 => v = .ref f ∧ H1 = HZ) IZ ⟨.ref f, hs, rfl, rfl⟩) fun u s1 ⟨v, H1, I1, r1, ev, eH⟩ => ?_)
  subst ev; subst eH
  obtain rfl : u = Value.ref f := r1
  have of1 := I1.base.keep f _ hf hfn hfr (fun z => nomatch (show f ∈ ([] : List Addr) from z))
  have un : Un (frs X.stack) [] H H1 s.heap s1.heap := I1.base
  obtain ⟨⟨oc, vs, t, hoc, hdc, hvc⟩, _, _⟩ := I1.hok c' _ hc
  refine PySem.W.callWith_F0 ⟨_, _, _, _, of1⟩ ?_
  have rc : codeAny (model X.prog X.w) (X.A.deeper (envOfC qg sg s.heap.objs.size g cdg)) (.call (.ref f) ⟨[], []⟩) (CR (L2N.CX X.prog X.w) (envOfC qg sg s.heap.objs.size g cdg :: X.stack) X.prog X.w H1 s1 Q E) s1 := by
    refine PySem.W.kla_callFunE hr.depth of1 rfl L.co L.gen rfl ⟨c', oc, vs, t, rfl, hoc, hdc, hvc⟩ ?_
    rw [hbind]
    refine wpAny_pure (wpAny_newFunctionEnv (fun y hy => (L.own y hy).2) (fun y hy => absurd hy (by simp)) (fun h₁ hns hsb => ⟨I1.nolimit.fresh _ hsb, ?_⟩) L.kind)
    show codeAny _ _ (.expr body (lamEnv X scope s1.heap.objs.size f c')) _ _
    have kp : ∀ b o, s1.heap.get? b = some o → h₁.get? b = some o := fun b o e => hsb.extBut b o (Nat.ne_of_lt (Heap.lt_size e)) (Heap.get?_push_of_some _ e)
    have J0 := lam_start2 (A := X.A.deeper (envOfC qg sg s.heap.objs.size g cdg)) (outer := envOfC qg sg s.heap.objs.size g cdg :: X.stack) (E := fun _ _ _ => False) (f := f) (c' := c') (tk := s1.toks + ([] : List (Str × Value)).length) I L I1.env0 hr.hd un hns kp
    have J : Inv (lamN X (X.A.deeper (envOfC qg sg s.heap.objs.size g cdg)) (envOfC qg sg s.heap.objs.size g cdg :: X.stack) s1 H1 E scope f c') [] σ H1 { s1 with heap := h₁, toks := s1.toks + ([] : List (Str × Value)).length } := J0.toTry _
    refine PySem.W.kla_codeExpr (wpAny_mono ((hbody _ _ s1 H1 (hr.deeper _)).run [] _ _ H1 Q J ht) (fun v s' ⟨w', H', J', rv, q⟩ => ⟨w', H', J'.os, J'.bare, J'.base, J'.hok, rv, q⟩) fun e s' hq => hq)
  refine wpAny_call (codeAny_mono rc fun r s' hq => ?_)
  cases r with
  | error e => exact L2N.passes_call tk hW pinsZ σZ H1 s1 e s' I1 hq
  | ok fl =>
    cases fl with
    | ret u => exact I1.after hq
    | next => exact False.elim hq
    | brk => exact False.elim hq
    | cont => exact False.elim hq
end
/-! ### the word of the error that a call raises -/
/-- refused(lambda: f): "", or what er tells of the error's class -/
def refK (er : Addr → Option Str) : Res → Res
  | .ok _ μ => .ok (.val (.str "")) μ
  | .exc C μ => match er C with
    | some x => .ok (.val (.str x)) μ
    | none => .bad
  | .bad => .bad
def eRef (er : Addr → Option Str) (f : EF) : EF := fun s μ => refK er (f s μ)
/-- the def that tells an error's words -/
structure GotE (P : Program) (w : World) (K : PySem.W.Frag) (mg : Str → Option Value) (base : Heap) (T : List (Addr × Str)) (k : Nat) (aW : Addr) (er : Addr → Option Str) : Prop where
  W : mg "WedgeError" = some (.ref aW)
  ex : ∃ (f : Addr) (fd : FuncData), mg "_law_error" = some (.ref f) ∧ PySem.W.keepIn K (.ref f) = true ∧ Binds K fd ["e"] [] ∧ ∀ C x, er C = some x → PySem.W.exmOne K (.ref C) (.ref aW) = some true ∧
    FnE P w K mg base (L2N.CX P w) k f fd ["e"] C (fun a vs H Q E => vs = [.ref a] ∧ ∃ ρ μ, OkG K T ρ [] μ H ∧ PostF K T ρ H Q E (.ok (.val (.str x)) μ))
section
variable {c : Cc} {W : WX} {X : Cx}
/-- a lambda is there -/
theorem Ok.lam {ρ : List Addr} {s : Sl} {μ : Mu} {σ : St} {H H1 : Hp} (ok : Ok c ρ [] s μ σ H) (e : ExtN H H1) (gr : ∀ b, H b ≠ none → H1 b ≠ none) (tb : Tabs c.T H1) : Ok c ρ [] s μ σ H1 ∧ StepX ρ H [] ρ H1 := by
  have kx : KeepX (hid H ρ) (hid H1 ρ) := fun b o hb n => by
    obtain ⟨h1, h2⟩ := hid_some.mp hb
    exact .inl (hid_some.mpr ⟨h1, e b o h2 n⟩)
  refine ⟨⟨⟨ok.g.len, ok.g.nd, fun a h => gr a (ok.g.live a h), fun i a m h1 h2 => ?_, tb⟩, ok.sl.keep .refl (by simpa using kx.keep), fun a h => gr a (ok.dom a h), ok.new, ok.le⟩, ⟨.refl, by simpa using kx, gr⟩⟩
  have q := ok.g.objs i a m h1 h2
  have kp : Keep (hid H ([] ++ ρ)) (hid H1 ([] ++ ρ)) := by simpa using kx.keep
  cases m with
  | lst xs => obtain ⟨vs, q1, q2, q3⟩ := q; exact ⟨vs, e _ _ q1 (fun _ z => nomatch z), q2, q3.keep kp⟩
  | dct xs => obtain ⟨vs, q1, q3⟩ := q; exact ⟨vs, e _ _ q1 (fun _ z => nomatch z), q3.keep kp⟩
  | ins C fs => obtain ⟨dx, vs, q1, q3⟩ := q; exact ⟨dx, vs, e _ _ q1 (fun _ z => nomatch z), q3.keep kp⟩
  | gone => exact q.elim
theorem de_ref {st : Stmt} {g aW cd P : Addr} {NR : List Str} {k kE : Nat} {er : Addr → Option Str} {params : Arguments} {body : Expr} {scope : Scope} {fb : EF} {p lpos pos p1 p2 p3 p4 p5 p6 p7 p8 p9 p10 p11 p12 : Pos} {j : Nat}
    (hK : c.K = X.K) (D : DefAt X.K X.mg "_law_refused" ["call"] st g) (S : FnScope ["call", "e"] ["call"] (defScope st)) (G : GotE X.prog X.w X.K X.mg X.base c.T kE aW er) (hr : Room (k + 2) X.A) (hkE : kE ≤ k + 1) (hg : Gl X "_law_refused")
    (TB : TabB X.base X.mg cd P) (hcode : X.env.code = .ref cd) (hmT : (P, X.env.qual ++ "<lambda>") ∈ c.T) (hu : ∀ p ∈ c.T, p.1 = P → p.2 = X.env.qual ++ "<lambda>") (L : LamS X.env.scope scope)
    (hbody : ∀ (A : Around) (outer : List Env) (s : Shared) (H : Hp) (E : XK) (f c' : Addr), Room k (A.deeper (lamEnv X scope s.heap.objs.size f c')) → PE (lamN X A outer s H E scope f c') body (tD c (fun cls d _ H => E cls d H) fb))
    (hb : defBody st = [.Try [.Expr (.Call (.Name "call" p1) [] [] p2) p3] [.ExceptHandler (some (.Name "WedgeError" p4)) (some "e") [.Return (some (.Call (.Name "_law_error" p5) [.Name "e" p6] [] p7)) p8] p9] [] [] p10, .Return (some (.Constant (.str "") j p11)) p12] := by rfl)
    (hsc : (defScope st).names.lookup ("WedgeError" : Str) = some NameKind.globalImplicit ∧ (defScope st).names.lookup ("_law_error" : Str) = some NameKind.globalImplicit ∧ (defScope st).names.lookup ("call" : Str) = some NameKind.local ∧ (defScope st).names.lookup ("e" : Str) = some NameKind.local := by decide +kernel)
    (hdef : defaultsOf params X.env = ([], []) := by rfl)
    (hbind : ∀ (q : Str) (cl : List (Str × Addr)) (pm cv ctv : Value), bindArgs (PySem.W.kla_fn "<lambda>" q params body scope cl pm cv ctv) ⟨[], []⟩ = pure [] := by intro _ _ _ _ _; rfl) :
    PE X (.Call (.Name "_law_refused" p) [.Lambda params body scope lpos] [] pos) (tD c W (eRef er fb)) := by
  obtain ⟨cK, cT, cB, cn⟩ := c
  have hK : cK = X.K := hK
  subst hK
  obtain ⟨fd, F, hbi, _⟩ := D.fn
  obtain ⟨oc, _, kV, doc, pm, _, cdg, ct, _, rfl, lk, hcg⟩ := F.ex
  obtain ⟨aE, fdE, gE, kpE, biE, FE⟩ := G.ex
  obtain ⟨hs1, hs2, hs3, hs4⟩ := hsc
  refine ⟨fun pins s σ H Q I ⟨ρ, s0, μ, ok, pp⟩ => ?_⟩
  refine wpAny_Call_Name_kw (ld_glob I hg D.g ?_ (by decide))
  refine PySem.W.callWith_K (h₀ := X.base) I.ok.mod.kin D.k ?_ (by rfl) (by rfl)
  show wpAny _ _ (spliced ((false, eval (.Lambda params body scope lpos) X.env) :: backTo pos (starEach [] X.env))) _ _ s
  refine Calls.spliced_cons (lam_makeG I TB hcode hmT hu ok.g.tabs hdef (L.has I.ok) fun f c' pm' ctv H1 s' I1 eN gr T1 hf hfn hfr hco => ?_)
  refine Calls.spliced_nil ⟨I1.kIn, ?_⟩
  obtain ⟨ok1, st1⟩ := ok.lam eN gr T1
  have rc : codeAny (model X.prog X.w) X.A (.call (.ref g) ⟨[.ref f], []⟩) (CR C8.CX0 X.stack X.prog X.w H1 s' Q C8.E0) s' := by
    refine run_ofS (N := ["call", "e"]) (ps := ["call"]) (us := [.ref f]) (vs := [.ref f]) lk hcg S hr I1.env0 (by have b := hbi s' [.ref f] I1.kIn rfl; simpa using b) (.cons rfl .nil) rfl fun hr' => ?_
    rw [hb]
    generalize hZ : (cxOf C8.CX0 X.prog X.w X.K X.mg X.base ["call", "e"] "_law_refused" (defScope st) g cdg X.A X.stack s' H1 C8.E0) = Z0
    have bodyR : ∀ (W : WX) (pn : List (Addr × Obj)) (xe : Value → Shared → Prop), L2N.Takes (Z0.nox.tr pn xe) W → PassesOwn (model Z0.nox.prog Z0.nox.w) Z0.nox.A Z0.nox.env xe → PSs (Z0.nox.tr pn xe) [.Expr (.Call (.Name "call" p1) [] [] p2) p3]
        (fun D σZ HZ => ∃ Ech : XK, (∀ cls d σ' H', Ech cls d H' → W cls d σ' H') ∧ σZ[0]? = some (some (.ref f)) ∧ HZ c' = some (CodeO c' (X.env.qual ++ "<lambda>")) ∧ tD ⟨X.K, cT, cB, cn⟩ (fun cls d _ H => Ech cls d H) fb σ HZ (fun _ H' => D.nx σZ H')) := by
      subst hZ
      intro W pn xe tk _
      refine ⟨fun pZ sZ σZ HZ D IZ ⟨Ech, hW, h1, h2, h3⟩ => ?_⟩
      have act := pe_actN (CXg := C8.CX0) (Eg := C8.E0) (Ng := ["call", "e"]) (qg := "_law_refused") (sg := defScope st) (g := g) (cdg := cdg) (i := 0) (a := "call") (p1 := p1) (p2 := p2) I1 L hf hfn hfr (hbind _ _ _ _ _) tk hW hr' (fun A outer s H hr2 => hbody A outer s H Ech f c' hr2) rfl (.inl hs3)
      exact (pss_one (ps_expr (pos := p3) act)).run pZ sZ σZ HZ D IZ ⟨h1, h2, h3⟩
    have suiteR : ∀ (a : Addr) (oe : Obj) (cls : Value) (d : Option Addr) (pn : List (Addr × Obj)), L2N.Zn cls d oe → (∃ vs, oe.data = .fields vs) → PSs (Z0.nox.suite a ((a, oe) :: pn)) [.Return (some (.Call (.Name "_law_error" p5) [.Name "e" p6] [] p7)) p8]
        (fun D σZ HZ => ∃ (C : Addr) (x : Str) (σ0 : L2.St), cls = .ref C ∧ d = none ∧ er C = some x ∧ σZ = σ0.set 1 (some (.ref a)) ∧ ∃ ρ μ, OkG X.K cT ρ [] μ HZ ∧ PostF X.K cT ρ HZ D.rt (fun _ _ _ => False) (.ok (.val (.str x)) μ)) := by
      subst hZ
      intro a oe cls d pn hz hfld
      refine ⟨fun pZ sZ σZ HZ D IZ ⟨C, x, σ0, e1, e2, he, hs, hp⟩ => ?_⟩
      subst e1; subst e2
      obtain ⟨_, FC⟩ := FE C x he
      have hot : HotE (((cxOf C8.CX0 X.prog X.w X.K X.mg X.base ["call", "e"] "_law_refused" (defScope st) g cdg X.A X.stack s' H1 C8.E0)).nox.suite a ((a, oe) :: pn)) C a := ⟨oe, List.mem_cons_self, rfl, hz, hfld⟩
      have hrE : RoomH kE (((cxOf C8.CX0 X.prog X.w X.K X.mg X.base ["call", "e"] "_law_refused" (defScope st) g cdg X.A X.stack s' H1 C8.E0)).nox.suite a ((a, oe) :: pn)).A := by
        refine RoomH.mono (k := k + 1) ⟨?_, ?_⟩ hkE
        · exact hr'.dp
        · exact hr'.un
      have call := pe_callE (X := ((cxOf C8.CX0 X.prog X.w X.K X.mg X.base ["call", "e"] "_law_refused" (defScope st) g cdg X.A X.stack s' H1 C8.E0)).nox.suite a ((a, oe) :: pn)) (q := p5) (pos := p7) FC hrE hot hs2 gE kpE biE (pa_cons (pe_var (x := "e") (pos := p6) (i := 1) rfl (.inl hs4)) pa_nil)
      have hl : σZ.length = 2 := IZ.len
      have hslot : σZ[1]? = some (some (.ref a)) := by
        rw [hs] at hl ⊢
        rw [List.length_set] at hl
        rw [List.getElem?_set_self (by omega)]
      exact (pss_one (ps_ret (pos := p8) call)).run pZ sZ σZ HZ D IZ ⟨_, hslot, rfl, hp⟩
    have tryR := L2N.ps_try_as (X := Z0.nox) (x := "WedgeError") (n := "e") (c := .ref aW) (i := 1) (np := p4) (pos := p10) (pos' := p9) (Wout := fun _ _ _ _ => False) (by subst hZ; rfl) (by subst hZ; rfl) (by subst hZ; exact S.nd) (by subst hZ; rfl) (by subst hZ; exact hs4) (by subst hZ; exact ⟨hs1, by decide, .inl G.W⟩) takesN bodyR suiteR
    refine ⟨_, (pss_cons tryR (pss_one (ps_ret pe_str))).nox, fun cls d H' => ∃ C x, cls = .ref C ∧ d = none ∧ er C = some x ∧ ∃ ρ μ, OkG X.K cT ρ [] μ H' ∧ PostF X.K cT ρ H' Q (fun _ _ _ => False) (.ok (.val (.str x)) μ), fun cls d σ' H' ⟨C, x, e1, e2, he, hp⟩ => ?_, rfl, hco, ρ, s0, μ, ok1, ?_⟩
    · subst e1; subst e2
      refine ⟨true, by subst hZ; exact (FE C x he).1, fun _ a _ => ⟨C, x, σ', rfl, rfl, he, rfl, hp⟩, fun z => nomatch z⟩
    · unfold eRef at pp
      cases e : fb s0 μ with
      | ok r μ1 =>
        rw [e] at pp
        exact fun v H' ρ' st rep => pp (.str "") H' ρ' (st1.trans st.weak) ⟨.str _, rep.ok⟩
      | bad => rw [e] at pp; exact pp.elim
      | exc C μ1 =>
        rw [e] at pp
        unfold refK at pp
        dsimp only at pp
        cases he : er C with
        | none => rw [he] at pp; exact pp.elim
        | some x =>
          rw [he] at pp
          exact fun H' ρ' st ok' => ⟨C, x, rfl, rfl, he, ρ', μ1, ok'.g, fun v H'' st' ⟨rep, g⟩ => pp v H'' ρ' ((st1.trans st).trans st') ⟨rep, ok'.behind st' g⟩⟩
  refine wpAny_call (codeAny_mono rc fun r s2 hq => ?_)
  cases r with
  | error e => exact (show False from hq).elim
  | ok fl =>
    cases fl with
    | ret u => exact I1.after hq
    | next => exact False.elim hq
    | brk => exact False.elim hq
    | cont => exact False.elim hq
end
/-! ### defs as values -/
/-- by the number that such a value bears: where the def lies, how many arguments, what it does -/
abbrev FTab := Nat → Option (Addr × Nat × FF)
structure TabOk (P : Program) (w : World) (K : PySem.W.Frag) (mg : Str → Option Value) (base : Heap) (T : List (Addr × Str)) (k : Nat) (tab : FTab) : Prop where
  ok : ∀ j f n F, tab j = some (f, n, F) → PySem.W.keepIn K (.ref f) = true ∧ ∃ fd ps, ps.length = n ∧ Binds K fd ps [] ∧ FnOk P w K mg base (L2N.CX P w) k f fd ps (spF K T n F)
def calleeV (tab : FTab) : Option (Option R) → Option (Addr × Nat × FF)
  | some (some (.val (.fn f j))) => match tab j with
    | some (f', n, F) => if f = f' then some (f, n, F) else none
    | none => none
  | _ => none
def eFnV (tab : FTab) (i : Nat) (fs : AF) : EF := fun s μ => match calleeV tab s[i]? with
  | some (_, n, F) => eFn n F fs s μ
  | none => .bad
section
variable {c : Cc} {W : WX} {X : Cx} {x : Str} {f : Addr} {k k' i j : Nat} {pos p : Pos} {e : Expr} {es : List Expr} {fs : AF} {tab : FTab}
theorem calleeV_ok {o : Option (Option R)} {n : Nat} {F : FF} (h : calleeV tab o = some (f, n, F)) : ∃ j, o = some (some (.val (.fn f j))) ∧ tab j = some (f, n, F) := by
  unfold calleeV at h
  split at h
  · rename_i f' j'
    split at h
    · rename_i f2 n2 F2 ht
      split at h
      · rename_i e
        cases h
        subst e
        exact ⟨j', rfl, ht⟩
      · cases h
    · cases h
  · cases h
theorem de_callV (V : TabOk X.prog X.w X.K X.mg X.base c.T k tab) (hK : c.K = X.K) (hr : Room k' X.A) (hle : k ≤ k') (hN : X.N[i]? = some x) (hv : Vis X.env.scope x) (tk : L2N.Takes X W) (ha : PA X (e :: es) (tA c W fs))
    (hdb : (x == ("__debug__" : Str)) = false := by decide) (hcd : (x == ("__classdict__" : Str)) = false := by decide)
    (he : starEach (e :: es) X.env = (false, eval e X.env) :: starEach es X.env := by rfl) (hpl : (backTo pos (starEach es X.env)).any (·.1) = false := by rfl) : PE X (.Call (.Name x p) (e :: es) [] pos) (tD c W (eFnV tab i fs)) := by
  refine ⟨fun pins s σ H Q I ⟨ρ, s0, μ, ok, pp⟩ => ?_⟩
  unfold eFnV at pp
  cases h : calleeV tab s0[i]? with
  | none => rw [h] at pp; exact pp.elim
  | some q =>
    obtain ⟨f, n, F⟩ := q
    rw [h] at pp
    obtain ⟨j, e1, e2⟩ := calleeV_ok h
    obtain ⟨kp, fd, ps, hn, hb, G⟩ := V.ok j f n F e2
    obtain ⟨v, hs, t⟩ := ok.sl.get e1
    cases (show Rep c.K _ (.fn f j) v from t)
    refine wpAny_Call_Name_kw (thn ((pe_var (pos := p) hN hv hdb hcd).run pins s σ H (fun v H1 => v = .ref f ∧ H1 = H) I ⟨.ref f, hs, rfl, rfl⟩) fun u s1 ⟨v, H1, I1, r1, ev, eH⟩ => ?_)
    subst ev; subst eH
    cases r1
    have q : tCallS (spF X.K c.T n F) (WE W) (tA c W fs) σ H1 Q := hK ▸ fn_imp σ H1 Q ⟨ρ, s0, μ, ok, pp⟩
    refine PySem.W.callWith_K (h₀ := X.base) I.ok.mod.kin kp (thn (ha.run pos pins s1 σ H1 _ I1 q) fun us s2 ⟨vs, H2, I2, r, h2⟩ => ⟨I2.kIn, ?_⟩) he hpl
    exact run_fnS G (hr.mono hle) hb (L2N.passAt tk σ) I2 r h2
theorem de_defV {ps : List Str} {F : FF} (G : Got X.prog X.w X.K X.mg X.base c.T k x f ps F) (hg : Gl X x) (hd : (x == ("__debug__" : Str)) = false := by decide) : PE X (.Name x pos) (tD c W (eC (.fn f j))) := de_c (pe_glob (v := .ref f) hg G.g rfl hd) (fun _ _ => .fn _ _)
theorem de_clsV (hm : X.mg x = some (.ref f)) (hg : Gl X x) (hd : (x == ("__debug__" : Str)) = false := by decide) : PE X (.Name x pos) (tD c W (eC (.fn f j))) := de_c (pe_glob (v := .ref f) hg hm rfl hd) (fun _ _ => .fn _ _)
end
section
variable {P : Program} {w : World} {K : PySem.W.Frag} {mg : Str → Option Value} {base : Heap} {T : List (Addr × Str)}
theorem Got.tab {nm : Str} {ps : List Str} {f : Addr} {k k' : Nat} {F : FF} (h : Got P w K mg base T k nm f ps F) (hle : k ≤ k') : PySem.W.keepIn K (.ref f) = true ∧ ∃ fd ps', ps'.length = ps.length ∧ Binds K fd ps' [] ∧ FnOk P w K mg base (L2N.CX P w) k' f fd ps' (spF K T ps.length F) := by
  obtain ⟨h1, h2, fd, h3, h4⟩ := h
  exact ⟨h2, fd, ps, rfl, h3.1, h4.mono hle⟩
/-- the code object of the def at f -/
def CodeOf (K : PySem.W.Frag) (f c : Addr) : Prop := ∃ oc od fd sl, K.lookup f = some ⟨oc, od, .func fd, sl⟩ ∧ fd.code = .ref c
theorem tab_uni : ∀ {T : List (Addr × Str)} {P : Addr} {q : Str}, (T.map (·.1)).Nodup → (P, q) ∈ T → ∀ p ∈ T, p.1 = P → p.2 = q
  | [], _, _, _, h, _, _, _ => by cases h
  | t :: T, P, q, nd, h, p, hp, e => by
    rw [List.map_cons, List.nodup_cons] at nd
    rcases List.mem_cons.mp h with h | h <;> rcases List.mem_cons.mp hp with hp | hp
    · rw [hp, ← h]
    · exact absurd (List.mem_map.mpr ⟨p, hp, by rw [e, ← h]⟩) nd.1
    · exact absurd (List.mem_map.mpr ⟨_, h, by rw [← hp, e]⟩) nd.1
    · exact tab_uni nd.2 h p hp e
/-- a def that makes lambdas -/
theorem gotT {nm : Str} {ps N : List Str} {st : Stmt} {f cd : Addr} {k : Nat} {body : SF} (d : DefAt K mg nm ps st f) (hc : CodeOf K f cd) (S : FnScope N ps (defScope st))
    (h : ∀ (A : Around) (outer : List Env) (s : Shared) (H : Hp) (E : XK) (B : Hp) (n : Nat), Room k (A.deeper (envOfC nm (defScope st) s.heap.objs.size f (.ref cd))) →
      PSs (cxOf (L2N.CX P w) P w K mg base N nm (defScope st) f (.ref cd) A outer s H E) (defBody st) (tS ⟨K, T, B, n⟩ (fun cls d _ H => E cls d H) body)) : Got P w K mg base T (k + 1) nm f ps (defF N.length body) := by
  obtain ⟨fd, F, h2⟩ := d.fn
  have F' := F
  obtain ⟨oc, _, kV, doc, pm, _, cdv, ct, osl, rfl, lk, hcd⟩ := F'.ex
  obtain ⟨oc2, od2, fd2, sl2, lk2, ec⟩ := hc
  have e2 : cdv = .ref cd := by
    rw [lk] at lk2
    cases lk2
    exact ec
  subst e2
  exact ⟨d.g, d.k, _, h2, fn_of lk hcd S (fun vs H Q E ⟨ρ, rs, μ, hn, tm, _⟩ => by rw [tm.length, hn]) fun A outer s H vs Q E hr ⟨ρ, rs, μ, hn, tm, g, p⟩ => ⟨_, h A outer s H E H ρ.length hr, start_post tm g p⟩⟩
theorem gotLB {Bp : Heap → Prop} {nm : Str} {ps N : List Str} {st : Stmt} {f : Addr} {k : Nat} {body : SF} (d : DefAt K mg nm ps st f) (S : FnScope N ps (defScope st))
    (h : ∀ (base : Heap) (_ : Bp base) (cdv : Value) (A : Around) (outer : List Env) (s : Shared) (H : Hp) (E : XK) (B : Hp) (n : Nat), Room k (A.deeper (envOfC nm (defScope st) s.heap.objs.size f cdv)) →
      PSs (cxOf (L2N.CX P w) P w K mg base N nm (defScope st) f cdv A outer s H E) (defBody st) (tS ⟨K, T, B, n⟩ (fun cls d _ H => E cls d H) body)) : ∃ fd, PureB fd ps ∧ ∀ base : Heap, Bp base → FnOk P w K mg base (L2N.CX P w) (k + 1) f fd ps (spF K T ps.length (defF N.length body)) := by
  obtain ⟨fd, h1, h2, h3⟩ := d.fn
  exact ⟨fd, h3, fun base hb => fn_ok h1 S fun cdv A outer s H E c e1 e2 hr => by cases c; cases e1; cases e2; exact h base hb cdv A outer s H E _ _ hr⟩
end
/-! ### the words of an error's class -/
def wordsOf (K : PySem.W.Frag) (ws : List (Str × Addr)) (C : Addr) : Str := Txt.join " " ((ws.filter fun w => PySem.W.kitOne K (.ref C) (.ref w.2) == some true).map (·.1))
structure ErrGood (K : PySem.W.Frag) (aW : Addr) (ws : List (Str × Addr)) (C : Addr) : Prop where
  c : ExcC K C
  e : PySem.W.exmOne K (.ref C) (.ref aW) = some true
  k : ∀ w ∈ ws, ∃ b, PySem.W.kitOne K (.ref C) (.ref w.2) = some b
open Classical in
noncomputable def erK (K : PySem.W.Frag) (aW : Addr) (ws : List (Str × Addr)) (C : Addr) : Option Str := if ErrGood K aW ws C then some (wordsOf K ws C) else none
theorem erK_some {K : PySem.W.Frag} {aW C : Addr} {ws : List (Str × Addr)} {x : Str} (h : erK K aW ws C = some x) : ErrGood K aW ws C ∧ x = wordsOf K ws C := by
  unfold erK at h
  split at h
  · exact ⟨by assumption, (Option.some.inj h).symm⟩
  · cases h
theorem erK_of {K : PySem.W.Frag} {aW C : Addr} {ws : List (Str × Addr)} {x : Str} (h : ErrGood K aW ws C) (e : wordsOf K ws C = x) : erK K aW ws C = some x := by
  unfold erK
  rw [if_pos h, e]
theorem kit_sub {K : PySem.W.Frag} {C D : Addr} {b : Bool} (hd : PySem.W.hasDictIn K D = true) (ht : PySem.W.typeIn K (.ref D) = some (.type "type")) (hs : PySem.W.subIn K (.ref C) (.ref D) = some b) (hr : PySem.W.subIn K (.ref C) (.ref C) = some true) : PySem.W.kitOne K (.ref C) (.ref D) = some b := by
  unfold PySem.W.kitOne
  split
  · rename_i e
    have e : C = D := Value.ref.inj (beq_iff_eq.mp e)
    subst e
    rw [hr] at hs
    exact hs
  · obtain ⟨cd, hc, _⟩ := PySem.W.any_some hd
    show (if ((PySem.W.clsIn K D).isSome && PySem.W.typeIn K (.ref D) == some (.type "type")) = true then PySem.W.subIn K (.ref C) (.ref D) else none) = some b
    rw [hc, ht]
    exact hs
theorem tabIn_of {K : PySem.W.Frag} {x : Str} {f c P : Addr} {oc oc2 : Value} {od od2 : Option Addr} {fd : FuncData} {sl sl2 : Array (Option Value)} {vs : Array Value} (a : PySem.W.nsIn K mainGlobals x = some (some (.ref f))) (l : K.lookup f = some ⟨oc, od, .func fd, sl⟩) (ec : fd.code = .ref c)
    (lc : K.lookup c = some ⟨oc2, od2, .fields vs, sl2⟩) (hv : vs[11]? = some (.ref P)) : PySem.W.tabIn K x = some (c, P) := by
  unfold PySem.W.tabIn
  rw [a]
  dsimp only
  rw [l]
  dsimp only
  rw [ec]
  dsimp only
  rw [lc]
  dsimp only
  rw [hv]
end Dl

namespace Dl
open PySem PySem.Spec PyProof.Rows L2
/-! ### how to reckon with the functions -/
@[simp] theorem q_bind_ok {r μ g} : (Res.ok r μ).bind g = g r μ := (rfl)
@[simp] theorem q_bind_exc {r μ g} : (Res.exc r μ).bind g = .exc r μ := (rfl)
@[simp] theorem q_bind_bad {g} : (Res.bad).bind g = .bad := (rfl)
@[simp] theorem q_bindB_ok {r μ g} : (Res.ok r μ).bindB g = g r μ := (rfl)
@[simp] theorem q_bindB_exc {r μ g} : (Res.exc r μ).bindB g = .exc r μ := (rfl)
@[simp] theorem q_bindB_bad {g} : (Res.bad).bindB g = .bad := (rfl)
@[simp] theorem q_bindA_ok {r μ g} : (Res.ok r μ).bindA g = g r μ := (rfl)
@[simp] theorem q_bindA_exc {r μ g} : (Res.exc r μ).bindA g = .exc r μ := (rfl)
@[simp] theorem q_bindA_bad {g} : (Res.bad).bindA g = .bad := (rfl)
@[simp] theorem q_Bbind_ok {r μ g} : (ResB.ok r μ).bind g = g r μ := (rfl)
@[simp] theorem q_Bbind_exc {r μ g} : (ResB.exc r μ).bind g = .exc r μ := (rfl)
@[simp] theorem q_Bbind_bad {g} : (ResB.bad).bind g = .bad := (rfl)
@[simp] theorem q_BbindB_ok {r μ g} : (ResB.ok r μ).bindB g = g r μ := (rfl)
@[simp] theorem q_BbindB_exc {r μ g} : (ResB.exc r μ).bindB g = .exc r μ := (rfl)
@[simp] theorem q_BbindB_bad {g} : (ResB.bad).bindB g = .bad := (rfl)
@[simp] theorem q_Abind_ok {r μ g} : (ResA.ok r μ).bind g = g r μ := (rfl)
@[simp] theorem q_Abind_exc {r μ g} : (ResA.exc r μ).bind g = .exc r μ := (rfl)
@[simp] theorem q_Abind_bad {g} : (ResA.bad).bind g = .bad := (rfl)
@[simp] theorem q_AbindA_ok {r μ g} : (ResA.ok r μ).bindA g = g r μ := (rfl)
@[simp] theorem q_AbindA_exc {r μ g} : (ResA.exc r μ).bindA g = .exc r μ := (rfl)
@[simp] theorem q_AbindA_bad {g} : (ResA.bad).bindA g = .bad := (rfl)
@[simp] theorem q_bindS_ok {s r μ g} : (Res.ok r μ).bindS s g = g r μ := (rfl)
@[simp] theorem q_bindS_exc {s r μ g} : (Res.exc r μ).bindS s g = .exc r s μ := (rfl)
@[simp] theorem q_bindS_bad {s g} : (Res.bad).bindS s g = .bad := (rfl)
@[simp] theorem q_BbindS_ok {s r μ g} : (ResB.ok r μ).bindS s g = g r μ := (rfl)
@[simp] theorem q_BbindS_exc {s r μ g} : (ResB.exc r μ).bindS s g = .exc r s μ := (rfl)
@[simp] theorem q_BbindS_bad {s g} : (ResB.bad).bindS s g = .bad := (rfl)
@[simp] theorem q_Sbind_nx {s μ g} : (SRes.nx s μ).bind g = g s μ := (rfl)
@[simp] theorem q_Sbind_rt {s μ g} : (SRes.rt s μ).bind g = .rt s μ := (rfl)
@[simp] theorem q_Sbind_bk {s μ g} : (SRes.bk s μ).bind g = .bk s μ := (rfl)
@[simp] theorem q_Sbind_ct {s μ g} : (SRes.ct s μ).bind g = .ct s μ := (rfl)
@[simp] theorem q_Sbind_exc {C s μ g} : (SRes.exc C s μ).bind g = .exc C s μ := (rfl)
@[simp] theorem q_Sbind_bad {g} : (SRes.bad).bind g = .bad := (rfl)
@[simp] theorem q_bindL_ok {r μ g} : (Res.ok r μ).bindL g = g r μ := (rfl)
@[simp] theorem q_bindL_exc {r μ g} : (Res.exc r μ).bindL g = .exc r μ := (rfl)
@[simp] theorem q_bindL_bad {g} : (Res.bad).bindL g = .bad := (rfl)
@[simp] theorem q_AbindL_ok {r μ g} : (ResA.ok r μ).bindL g = g r μ := (rfl)
@[simp] theorem q_AbindL_exc {r μ g} : (ResA.exc r μ).bindL g = .exc r μ := (rfl)
@[simp] theorem q_AbindL_bad {g} : (ResA.bad).bindL g = .bad := (rfl)
section
variable {s : Sl} {μ : Mu} {f g fa fb fc : EF} {fs : AF} {gs : AF} {t u : TF} {p q : SF} {i j n : Nat} {d : D}

def varK : Option (Option R) → Mu → Res
  | some (some r), μ => .ok (norm r) μ
  | _, _ => .bad
@[simp] theorem varK_s {r : R} : varK (some (some r)) μ = .ok (norm r) μ := (rfl)
@[simp] theorem sm_eVarN : eVarN i s μ = varK s[i]? μ := by unfold eVarN varK; cases s[i]? with | none => rfl | some x => cases x <;> rfl
@[simp] theorem sm_eC : eC d s μ = .ok (.val d) μ := (rfl)
def binK (h : D → D → Mu → Res) (fb : EF) (s : Sl) (x : R) (μ : Mu) : Res := (fb s μ).bind (two h x)
@[simp] theorem binK_s {h : D → D → Mu → Res} {x : R} : binK h fb s x μ = (fb s μ).bind (two h x) := (rfl)
@[simp] theorem sm_eBin {h : D → D → Mu → Res} : eBin h fa fb s μ = (fa s μ).bind (binK h fb s) := (rfl)
def ch3 (h2 : D → D → Mu → Res) (fc : EF) (s : Sl) (y : R) : R → Mu → Res
  | .val (.bl k), μ => if k = true then (fc s μ).bind (two h2 y) else .ok (.val (.bl false)) μ
  | _, _ => .bad
def ch2 (h h2 : D → D → Mu → Res) (fc : EF) (s : Sl) (x y : R) (μ : Mu) : Res := (two h x y μ).bind (ch3 h2 fc s y)
def ch1 (h h2 : D → D → Mu → Res) (fb fc : EF) (s : Sl) (x : R) (μ : Mu) : Res := (fb s μ).bind (ch2 h h2 fc s x)
@[simp] theorem ch3_s {h2 : D → D → Mu → Res} {y : R} {k : Bool} : ch3 h2 fc s y (.val (.bl k)) μ = if k = true then (fc s μ).bind (two h2 y) else .ok (.val (.bl false)) μ := (rfl)
@[simp] theorem ch2_s {h h2 : D → D → Mu → Res} {x y : R} : ch2 h h2 fc s x y μ = (two h x y μ).bind (ch3 h2 fc s y) := (rfl)
@[simp] theorem ch1_s {h h2 : D → D → Mu → Res} {x : R} : ch1 h h2 fb fc s x μ = (fb s μ).bind (ch2 h h2 fc s x) := (rfl)
theorem bind_ext {a : Res} {k k' : R → Mu → Res} (h : ∀ r μ, k r μ = k' r μ) : a.bind k = a.bind k' := by cases a <;> simp [h]
@[simp] theorem sm_eChain {h h2 : D → D → Mu → Res} : eChain h h2 fa fb fc s μ = (fa s μ).bind (ch1 h h2 fb fc s) := by
  unfold eChain
  refine bind_ext fun x μ1 => bind_ext fun y μ2 => bind_ext fun r μ3 => ?_
  unfold ch3
  cases r with
  | val d => cases d <;> rfl
  | _ => rfl
@[simp] theorem sm_tOf : tOf f s μ = (f s μ).bindB asB := (rfl)
def andK (u : TF) (s : Sl) (b : Bool) (μ : Mu) : ResB := if b = true then u s μ else .ok false μ
def orK (u : TF) (s : Sl) (b : Bool) (μ : Mu) : ResB := if b = true then .ok true μ else u s μ
def notK (b : Bool) (μ : Mu) : ResB := .ok (!b) μ
def ifK (f g : EF) (s : Sl) (b : Bool) (μ : Mu) : Res := if b = true then f s μ else g s μ
@[simp] theorem andK_s {b : Bool} : andK u s b μ = if b = true then u s μ else .ok false μ := (rfl)
@[simp] theorem orK_s {b : Bool} : orK u s b μ = if b = true then .ok true μ else u s μ := (rfl)
@[simp] theorem notK_s {b : Bool} : notK b μ = .ok (!b) μ := (rfl)
@[simp] theorem ifK_s {b : Bool} : ifK f g s b μ = if b = true then f s μ else g s μ := (rfl)
@[simp] theorem sm_tAndF : tAndF t u s μ = (t s μ).bindB (andK u s) := (rfl)
@[simp] theorem sm_tOrF : tOrF t u s μ = (t s μ).bindB (orK u s) := (rfl)
@[simp] theorem sm_tNotF : tNotF t s μ = (t s μ).bindB notK := (rfl)
@[simp] theorem sm_tYesF : tYesF s μ = .ok true μ := (rfl)
@[simp] theorem sm_eIf : eIf t f g s μ = (t s μ).bind (ifK f g s) := (rfl)
def eandK (g : EF) (s : Sl) : R → Mu → Res
  | .val (.bl b), μ => if b = true then g s μ else .ok (.val (.bl false)) μ
  | _, _ => .bad
def eorK (g : EF) (s : Sl) : R → Mu → Res
  | .val (.bl b), μ => if b = true then .ok (.val (.bl true)) μ else g s μ
  | _, _ => .bad
def enotK : R → Mu → Res
  | .val (.bl b), μ => .ok (.val (.bl (!b))) μ
  | _, _ => .bad
def enegK : R → Mu → Res
  | .val (.int i), μ => .ok (.val (.int (-i))) μ
  | _, _ => .bad
def isnK (b : Bool) (x : R) (μ : Mu) : Res := .ok (.val (.bl (isNonR x == b))) μ
@[simp] theorem eandK_s {b : Bool} : eandK g s (.val (.bl b)) μ = if b = true then g s μ else .ok (.val (.bl false)) μ := (rfl)
@[simp] theorem eorK_s {b : Bool} : eorK g s (.val (.bl b)) μ = if b = true then .ok (.val (.bl true)) μ else g s μ := (rfl)
@[simp] theorem enotK_s {b : Bool} : enotK (.val (.bl b)) μ = .ok (.val (.bl (!b))) μ := (rfl)
@[simp] theorem enegK_s {b : Int} : enegK (.val (.int b)) μ = .ok (.val (.int (-b))) μ := (rfl)
@[simp] theorem isnK_s {b : Bool} {x : R} : isnK b x μ = .ok (.val (.bl (isNonR x == b))) μ := (rfl)
@[simp] theorem sm_eAnd : eAnd f g s μ = (f s μ).bind (eandK g s) := bind_ext fun x μ1 => by
  cases x with
  | val d => cases d <;> rfl
  | _ => rfl
@[simp] theorem sm_eOr : eOr f g s μ = (f s μ).bind (eorK g s) := bind_ext fun x μ1 => by
  cases x with
  | val d => cases d <;> rfl
  | _ => rfl
@[simp] theorem sm_eNot : eNot f s μ = (f s μ).bind enotK := bind_ext fun x μ1 => by
  cases x with
  | val d => cases d <;> rfl
  | _ => rfl
@[simp] theorem sm_eNeg : eNeg f s μ = (f s μ).bind enegK := bind_ext fun x μ1 => by
  cases x with
  | val d => cases d <;> rfl
  | _ => rfl
@[simp] theorem sm_eIsN {b : Bool} : eIsN b f s μ = (f s μ).bind (isnK b) := (rfl)
def consK2 (x : R) (xs : List R) (μ : Mu) : ResA := .ok (x :: xs) μ
def consK (fs : AF) (s : Sl) (x : R) (μ : Mu) : ResA := (fs s μ).bindA (consK2 x)
@[simp] theorem consK2_s {x : R} {xs : List R} : consK2 x xs μ = .ok (x :: xs) μ := (rfl)
@[simp] theorem consK_s {x : R} : consK fs s x μ = (fs s μ).bindA (consK2 x) := (rfl)
@[simp] theorem sm_aNil : aNil s μ = .ok [] μ := (rfl)
@[simp] theorem sm_aCons : aCons f fs s μ = (f s μ).bindA (consK fs s) := (rfl)
def tupK2 : Option (List D) → Mu → Res
  | some ds, μ => if ds.length ≤ 1000 then .ok (.val (.tup ds)) μ else .bad
  | none, _ => .bad
def lstK2 : Option (List D) → Mu → Res
  | some ds, μ => if ds.length ≤ 1000 then .ok (.newL ds) μ else .bad
  | none, _ => .bad
def tupK (rs : List R) (μ : Mu) : Res := tupK2 (datas μ rs) μ
def lstK (rs : List R) (μ : Mu) : Res := lstK2 (datas μ rs) μ
@[simp] theorem tupK2_s {ds : List D} : tupK2 (some ds) μ = if ds.length ≤ 1000 then .ok (.val (.tup ds)) μ else .bad := (rfl)
@[simp] theorem lstK2_s {ds : List D} : lstK2 (some ds) μ = if ds.length ≤ 1000 then .ok (.newL ds) μ else .bad := (rfl)
@[simp] theorem tupK_s {rs : List R} : tupK rs μ = tupK2 (datas μ rs) μ := (rfl)
@[simp] theorem lstK_s {rs : List R} : lstK rs μ = lstK2 (datas μ rs) μ := (rfl)
theorem Abind_ext {a : ResA} {k k' : List R → Mu → Res} (h : ∀ r μ, k r μ = k' r μ) : a.bind k = a.bind k' := by cases a <;> simp [h]
@[simp] theorem sm_eTup : eTup fs s μ = (fs s μ).bind tupK := Abind_ext fun rs μ1 => by unfold tupK tupK2; cases datas μ1 rs <;> rfl
@[simp] theorem sm_eLst : eLst fs s μ = (fs s μ).bind lstK := Abind_ext fun rs μ1 => by unfold lstK lstK2; cases datas μ1 rs <;> rfl
@[simp] theorem sm_eCall {h : List R → Mu → Res} : eCall h fs s μ = (fs s μ).bind h := (rfl)
def fnK (n : Nat) (F : FF) (rs : List R) (μ : Mu) : Res := if rs.length = n then F rs μ else .bad
@[simp] theorem fnK_s {F : FF} {rs : List R} : fnK n F rs μ = if rs.length = n then F rs μ else .bad := (rfl)
@[simp] theorem sm_eFn {F : FF} : eFn n F fs s μ = (fs s μ).bind (fnK n F) := (rfl)
def slF (lo hi : Option Int) (d : D) (μ : Mu) : Res := slD d lo hi μ
@[simp] theorem slF_s {lo hi : Option Int} : slF lo hi d μ = slD d lo hi μ := (rfl)
def slN2 (x y : R) (μ : Mu) : Res := asI y μ fun j μ3 => one (slF none (some j)) x μ3
def slN1 (g : EF) (s : Sl) (x : R) (μ : Mu) : Res := (g s μ).bind (slN2 x)
def slL2 (x y : R) (μ : Mu) : Res := asI y μ fun j μ3 => one (slF (some j) none) x μ3
def slL1 (g : EF) (s : Sl) (x : R) (μ : Mu) : Res := (g s μ).bind (slL2 x)
def slB3 (x : R) (i : Int) (y : R) (μ : Mu) : Res := asI y μ fun j μ3 => one (slF (some i) (some j)) x μ3
def slB2 (fc : EF) (s : Sl) (x y : R) (μ : Mu) : Res := asI y μ fun i μ3 => (fc s μ3).bind (slB3 x i)
def slB1 (fb fc : EF) (s : Sl) (x : R) (μ : Mu) : Res := (fb s μ).bind (slB2 fc s x)
@[simp] theorem slN2_s {x : R} {k : Int} : slN2 x (.val (.int k)) μ = one (slF none (some k)) x μ := (rfl)
@[simp] theorem slN1_s {x : R} : slN1 g s x μ = (g s μ).bind (slN2 x) := (rfl)
@[simp] theorem slL2_s {x : R} {k : Int} : slL2 x (.val (.int k)) μ = one (slF (some k) none) x μ := (rfl)
@[simp] theorem slL1_s {x : R} : slL1 g s x μ = (g s μ).bind (slL2 x) := (rfl)
@[simp] theorem slB3_s {x : R} {k l : Int} : slB3 x k (.val (.int l)) μ = one (slF (some k) (some l)) x μ := (rfl)
@[simp] theorem slB2_s {x : R} {k : Int} : slB2 fc s x (.val (.int k)) μ = (fc s μ).bind (slB3 x k) := (rfl)
@[simp] theorem slB1_s {x : R} : slB1 fb fc s x μ = (fb s μ).bind (slB2 fc s x) := (rfl)
@[simp] theorem sm_eSlN : eSlN f g s μ = (f s μ).bind (slN1 g s) := (rfl)
@[simp] theorem sm_eSlL : eSlL f g s μ = (f s μ).bind (slL1 g s) := (rfl)
@[simp] theorem sm_eSlB : eSlB fa fb fc s μ = (fa s μ).bind (slB1 fb fc s) := (rfl)
def jnK (fb : EF) (s : Sl) : R → Mu → Res
  | .val (.str a), μ => (fb s μ).bind (two joinD (.val (.str a)))
  | _, _ => .bad
@[simp] theorem jnK_s {a : Str} : jnK fb s (.val (.str a)) μ = (fb s μ).bind (two joinD (.val (.str a))) := (rfl)
@[simp] theorem sm_eJoin : eJoin fa fb s μ = (fa s μ).bind (jnK fb s) := bind_ext fun x μ1 => by
  cases x with
  | val d => cases d <;> rfl
  | _ => rfl
def apK2 (x y : R) (μ : Mu) : Res := appR x y μ
def apK (fb : EF) (s : Sl) (x : R) (μ : Mu) : Res := if isL x μ = true then (fb s μ).bind (apK2 x) else .bad
@[simp] theorem apK2_s {x y : R} : apK2 x y μ = appR x y μ := (rfl)
@[simp] theorem apK_s {x : R} : apK fb s x μ = if isL x μ = true then (fb s μ).bind (apK2 x) else .bad := (rfl)
@[simp] theorem sm_eApp : eApp fa fb s μ = (fa s μ).bind (apK fb s) := (rfl)
@[simp] theorem sm_sSeq : sSeq p q s μ = (p s μ).bind q := (rfl)
@[simp] theorem sm_sPass : sPass s μ = .nx s μ := (rfl)
@[simp] theorem sm_sBreak : sBreak s μ = .bk s μ := (rfl)
@[simp] theorem sm_sCont : sCont s μ = .ct s μ := (rfl)
def exK (s : Sl) (x : R) (μ : Mu) : SRes := .nx s μ
@[simp] theorem exK_s {x : R} : exK s x μ = .nx s μ := (rfl)
@[simp] theorem sm_sExpr : sExpr f s μ = (f s μ).bindS s (exK s) := (rfl)
@[simp] theorem sm_sRet : sRet f s μ = (f s μ).bindS s SRes.rt := (rfl)
@[simp] theorem sm_sRetN : sRetN s μ = .rt (.val .non) μ := (rfl)
def sifK (p q : SF) (s : Sl) (b : Bool) (μ : Mu) : SRes := if b = true then p s μ else q s μ
@[simp] theorem sifK_s {b : Bool} : sifK p q s b μ = if b = true then p s μ else q s μ := (rfl)
@[simp] theorem sm_sIf : sIf t p q s μ = (t s μ).bindS s (sifK p q s) := (rfl)
def setK (i : Nat) (s : Sl) (r : R) (μ : Mu) : SRes := .nx (s.set i (some (norm r))) μ
@[simp] theorem setK_s {r : R} : setK i s r μ = .nx (s.set i (some (norm r))) μ := (rfl)
@[simp] theorem sm_sSet : sSet i f s μ = (f s μ).bindS s (setK i s) := (rfl)
theorem bindS_ext {a : Res} {k k' : R → Mu → SRes} (h : ∀ r μ, k r μ = k' r μ) : a.bindS s k = a.bindS s k' := by cases a <;> simp [h]
def newK (i : Nat) (s : Sl) : R → Mu → SRes
  | .newL xs, μ => .nx (s.set i (some (.obj μ.length))) (μ ++ [.lst xs])
  | .newD xs, μ => .nx (s.set i (some (.obj μ.length))) (μ ++ [.dct xs])
  | _, _ => .bad
@[simp] theorem newK_L {xs : List D} : newK i s (.newL xs) μ = .nx (s.set i (some (.obj μ.length))) (μ ++ [.lst xs]) := (rfl)
@[simp] theorem newK_D {xs : List (Key × D)} : newK i s (.newD xs) μ = .nx (s.set i (some (.obj μ.length))) (μ ++ [.dct xs]) := (rfl)
@[simp] theorem sm_sNew : sNew i f s μ = (f s μ).bindS s (newK i s) := bindS_ext fun r μ1 => by cases r <;> rfl
@[simp] theorem sm_sRaise {C : Addr} : sRaise C s μ = .exc C s μ := (rfl)
def tgK2 : Option Sl → Mu → SRes
  | some s1, μ => .nx s1 μ
  | none, _ => .bad
def tgK (tg : TgF) (s : Sl) : R → Mu → SRes
  | .val d, μ => tgK2 (tg d s) μ
  | _, _ => .bad
@[simp] theorem tgK2_s {s1 : Sl} : tgK2 (some s1) μ = .nx s1 μ := (rfl)
@[simp] theorem tgK_s {tg : TgF} : tgK tg s (.val d) μ = tgK2 (tg d s) μ := (rfl)
@[simp] theorem sm_sTg {tg : TgF} : sTg tg f s μ = (f s μ).bindS s (tgK tg s) := bindS_ext fun r μ1 => by
  cases r with
  | val d => show _ = tgK2 (tg d s) μ1; unfold tgK2; dsimp only; cases tg d s <;> rfl
  | _ => rfl
def parF2 (i j : Nat) (s : Sl) (x y : R) (μ : Mu) : SRes := .nx ((s.set i (some (norm x))).set j (some (norm y))) μ
def parF1 (i j : Nat) (fb : EF) (s : Sl) (x : R) (μ : Mu) : SRes := (fb s μ).bindS s (parF2 i j s x)
def parT2 (i j : Nat) (s : Sl) (x : R) : R → Mu → SRes
  | .newL xs, μ => .nx ((s.set i (some (norm x))).set j (some (.obj μ.length))) (μ ++ [.lst xs])
  | .newD xs, μ => .nx ((s.set i (some (norm x))).set j (some (.obj μ.length))) (μ ++ [.dct xs])
  | _, _ => .bad
def parT1 (i j : Nat) (fb : EF) (s : Sl) (x : R) (μ : Mu) : SRes := (fb s μ).bindS s (parT2 i j s x)
@[simp] theorem parF2_s {x y : R} : parF2 i j s x y μ = .nx ((s.set i (some (norm x))).set j (some (norm y))) μ := (rfl)
@[simp] theorem parF1_s {x : R} : parF1 i j fb s x μ = (fb s μ).bindS s (parF2 i j s x) := (rfl)
@[simp] theorem parT2_L {x : R} {xs : List D} : parT2 i j s x (.newL xs) μ = .nx ((s.set i (some (norm x))).set j (some (.obj μ.length))) (μ ++ [.lst xs]) := (rfl)
@[simp] theorem parT2_D {x : R} {xs : List (Key × D)} : parT2 i j s x (.newD xs) μ = .nx ((s.set i (some (norm x))).set j (some (.obj μ.length))) (μ ++ [.dct xs]) := (rfl)
@[simp] theorem parT1_s {x : R} : parT1 i j fb s x μ = (fb s μ).bindS s (parT2 i j s x) := (rfl)
@[simp] theorem sm_sParF : sPar false i j fa fb s μ = (fa s μ).bindS s (parF1 i j fb s) := (rfl)
@[simp] theorem sm_sParT : sPar true i j fa fb s μ = (fa s μ).bindS s (parT1 i j fb s) := bindS_ext fun x μ1 => bindS_ext fun y μ2 => by cases y <;> rfl
def par33 (i j l : Nat) (s : Sl) (x y z : R) (μ : Mu) : SRes := .nx (((s.set i (some (norm x))).set j (some (norm y))).set l (some (norm z))) μ
def par32 (i j l : Nat) (fc : EF) (s : Sl) (x y : R) (μ : Mu) : SRes := (fc s μ).bindS s (par33 i j l s x y)
def par31 (i j l : Nat) (fb fc : EF) (s : Sl) (x : R) (μ : Mu) : SRes := (fb s μ).bindS s (par32 i j l fc s x)
@[simp] theorem par33_s {l : Nat} {x y z : R} : par33 i j l s x y z μ = .nx (((s.set i (some (norm x))).set j (some (norm y))).set l (some (norm z))) μ := (rfl)
@[simp] theorem par32_s {l : Nat} {x y : R} : par32 i j l fc s x y μ = (fc s μ).bindS s (par33 i j l s x y) := (rfl)
@[simp] theorem par31_s {l : Nat} {x : R} : par31 i j l fb fc s x μ = (fb s μ).bindS s (par32 i j l fc s x) := (rfl)
@[simp] theorem sm_sPar3 {l : Nat} : sPar3 i j l fa fb fc s μ = (fa s μ).bindS s (par31 i j l fb fc s) := (rfl)
def put5 (s : Sl) (d : D) (acc : List D) (j : Nat) : Option Nat → Mu → SRes
  | some n, μ => .nx s (μ.set j (.lst (acc.set n d)))
  | none, _ => .bad
def put4 (s : Sl) (j : Nat) (k : Int) : Option D → Option MO → Mu → SRes
  | some d, some (.lst acc), μ => put5 s d acc j (L2.ixN acc.length k) μ
  | _, _, _ => .bad
def put3 (s : Sl) (y x : R) : R → Mu → SRes
  | .val (.int k), μ => match x with
    | .obj j => put4 s j k (dataOf y) μ[j]? μ
    | _ => .bad
  | _, _ => .bad
def put2 (fc : EF) (s : Sl) (y x : R) (μ : Mu) : SRes := (fc s μ).bindS s (put3 s y x)
def put1 (fb fc : EF) (s : Sl) (y : R) (μ : Mu) : SRes := (fb s μ).bindS s (put2 fc s y)
@[simp] theorem put5_s {acc : List D} {n : Nat} : put5 s d acc j (some n) μ = .nx s (μ.set j (.lst (acc.set n d))) := (rfl)
@[simp] theorem put4_s {acc : List D} {k : Int} : put4 s j k (some d) (some (.lst acc)) μ = put5 s d acc j (L2.ixN acc.length k) μ := (rfl)
@[simp] theorem put3_s {y : R} {k : Int} : put3 s y (.obj j) (.val (.int k)) μ = put4 s j k (dataOf y) μ[j]? μ := (rfl)
@[simp] theorem put2_s {y x : R} : put2 fc s y x μ = (fc s μ).bindS s (put3 s y x) := (rfl)
@[simp] theorem put1_s {y : R} : put1 fb fc s y μ = (fb s μ).bindS s (put2 fc s y) := (rfl)
@[simp] theorem sm_sPutL : sPutL fa fb fc s μ = (fa s μ).bindS s (put1 fb fc s) := bindS_ext fun y μ1 => bindS_ext fun x μ2 => bindS_ext fun z μ3 => by
  unfold put3
  cases z with
  | val d =>
    cases d with
    | int k =>
      cases x with
      | obj j =>
        dsimp only
        unfold put4
        cases dataOf y with
        | none => rfl
        | some e =>
          dsimp only
          cases μ3[j]? with
          | none => rfl
          | some m =>
            cases m with
            | lst acc => dsimp only; unfold put5; cases L2.ixN acc.length k <;> rfl
            | _ => rfl
      | _ => cases dataOf y <;> rfl
    | _ => cases dataOf y <;> cases x <;> rfl
  | _ => cases dataOf y <;> cases x <;> rfl
def forK (tg : TgF) (p : SF) (s : Sl) : ResL → SRes
  | .ok ds μ1 => forL tg p ds s μ1
  | .exc C μ1 => .exc C s μ1
  | .bad => .bad
def compK (tg : TgF) (t : TF) (f : EF) (s : Sl) : ResL → Res
  | .ok ds μ1 => compL tg t f s μ1.length ds (μ1 ++ [.lst []])
  | .exc C μ1 => .exc C μ1
  | .bad => .bad
@[simp] theorem forK_s {tg : TgF} {ds : List D} : forK tg p s (.ok ds μ) = forL tg p ds s μ := (rfl)
@[simp] theorem compK_s {tg : TgF} {ds : List D} : compK tg t f s (.ok ds μ) = compL tg t f s μ.length ds (μ ++ [.lst []]) := (rfl)
@[simp] theorem sm_sFor {src : LF} {tg : TgF} : sFor src tg p s μ = forK tg p s (src s μ) := by unfold sFor forK; cases src s μ <;> rfl
@[simp] theorem sm_eComp {src : LF} {tg : TgF} {vs : List Nat} : eComp src tg t f vs s μ = compK tg t f (wipeS s vs) (src s μ) := by unfold eComp compK; cases src s μ <;> rfl
theorem bindL_ext {a : Res} {k k' : R → Mu → ResL} (h : ∀ r μ, k r μ = k' r μ) : a.bindL k = a.bindL k' := by cases a <;> simp [h]
theorem AbindL_ext {a : ResA} {k k' : List R → Mu → ResL} (h : ∀ r μ, k r μ = k' r μ) : a.bindL k = a.bindL k' := by cases a <;> simp [h]
def llK : R → Mu → ResL
  | .val (.lst ds), μ => .ok ds μ
  | .newL ds, μ => .ok ds μ
  | _, _ => .bad
def ltK : R → Mu → ResL
  | .val (.tup ds), μ => .ok ds μ
  | _, _ => .bad
def lsK : R → Mu → ResL
  | .val (.str x), μ => .ok (x.cps.toList.map fun k => .str ⟨#[k]⟩) μ
  | _, _ => .bad
def lr1K (rs : List R) (μ : Mu) : ResL := match rs with
  | [.val (.int n)] => if rgOk n = true then .ok (rngD 0 n.toNat) μ else .bad
  | _ => .bad
def lr2K (rs : List R) (μ : Mu) : ResL := match rs with
  | [.val (.int a), .val (.int b)] => if rgOk a = true ∧ rgOk b = true then .ok (rngD a (b - a).toNat) μ else .bad
  | _ => .bad
def lenK (rs : List R) (μ : Mu) : ResL := match rs with
  | [.val (.tup ds)] => .ok (enumD 0 ds) μ
  | _ => .bad
@[simp] theorem llK_v {ds : List D} : llK (.val (.lst ds)) μ = .ok ds μ := (rfl)
@[simp] theorem llK_L {ds : List D} : llK (.newL ds) μ = .ok ds μ := (rfl)
@[simp] theorem ltK_s {ds : List D} : ltK (.val (.tup ds)) μ = .ok ds μ := (rfl)
@[simp] theorem lsK_s {x : Str} : lsK (.val (.str x)) μ = .ok (x.cps.toList.map fun k => .str ⟨#[k]⟩) μ := (rfl)
@[simp] theorem lr1K_s {k : Int} : lr1K [.val (.int k)] μ = if rgOk k = true then .ok (rngD 0 k.toNat) μ else .bad := (rfl)
@[simp] theorem lr2K_s {k l : Int} : lr2K [.val (.int k), .val (.int l)] μ = if rgOk k = true ∧ rgOk l = true then .ok (rngD k (l - k).toNat) μ else .bad := (rfl)
@[simp] theorem lenK_s {ds : List D} : lenK [.val (.tup ds)] μ = .ok (enumD 0 ds) μ := (rfl)
@[simp] theorem sm_lL : lL f s μ = (f s μ).bindL llK := bindL_ext fun x μ1 => by
  cases x with
  | val d => cases d <;> rfl
  | _ => rfl
@[simp] theorem sm_lT : lT f s μ = (f s μ).bindL ltK := bindL_ext fun x μ1 => by
  cases x with
  | val d => cases d <;> rfl
  | _ => rfl
@[simp] theorem sm_lS : lS f s μ = (f s μ).bindL lsK := bindL_ext fun x μ1 => by
  cases x with
  | val d => cases d <;> rfl
  | _ => rfl
@[simp] theorem sm_lR1 : lR1 fs s μ = (fs s μ).bindL lr1K := AbindL_ext fun rs μ1 => rfl
@[simp] theorem sm_lR2 : lR2 fs s μ = (fs s μ).bindL lr2K := AbindL_ext fun rs μ1 => rfl
@[simp] theorem sm_lEnT : lEnT fs s μ = (fs s μ).bindL lenK := AbindL_ext fun rs μ1 => rfl
@[simp] theorem rgOk_i {n : Int} (h : -16777216 ≤ n ∧ n ≤ 16777216) : rgOk n = true := by
  unfold rgOk; rw [Nat.ble_eq]; omega
@[simp] theorem two_vL {h : D → D → Mu → Res} {a : D} {b : List D} : two h (.val a) (.newL b) μ = h a (.lst b) μ := (rfl)
@[simp] theorem two_Lv {h : D → D → Mu → Res} {a : List D} {b : D} : two h (.newL a) (.val b) μ = h (.lst a) b μ := (rfl)
@[simp] theorem two_LL {h : D → D → Mu → Res} {a b : List D} : two h (.newL a) (.newL b) μ = h (.lst a) (.lst b) μ := (rfl)
@[simp] theorem addD_l {a b : List D} : addD (.lst a) (.lst b) μ = if a.length + b.length ≤ sizeLine then .ok (.newL (a ++ b)) μ else .bad := (rfl)
@[simp] theorem addD_t {a b : List D} : addD (.tup a) (.tup b) μ = if a.length + b.length ≤ sizeLine then .ok (.val (.tup (a ++ b))) μ else .bad := (rfl)
@[simp] theorem addD_s {a b : Str} : addD (.str a) (.str b) μ = if a.length + b.length ≤ sizeLine then .ok (.val (.str (a ++ b))) μ else .bad := (rfl)
@[simp] theorem sortedD_l {a : List D} : sortedD (.lst a) μ = if sortOk a = true then .ok (.newL (a.mergeSort leS)) μ else .bad := (rfl)
@[simp] theorem joinD_s {a : Str} {b : List D} : joinD (.str a) (.lst b) μ = match asStrs b with
    | some ys => if (ys.map (·.length)).sum + ys.length * a.length ≤ 16777216 then .ok (.val (.str (Txt.join a ys))) μ else .bad
    | none => .bad := (rfl)
@[simp] theorem sumD_l {a : List D} : sumD (.lst a) μ = match asInts a with | some ns => .ok (.val (.int ns.sum)) μ | none => .bad := (rfl)
@[simp] theorem allD_l {a : List D} : allD (.lst a) μ = match asBools a with | some ns => .ok (.val (.bl (ns.all id))) μ | none => .bad := (rfl)
@[simp] theorem lenD_s {a : Str} : lenD (.str a) μ = if a.length ≤ sizeLine then .ok (.val (.int a.length)) μ else .bad := (rfl)
@[simp] theorem strD_s {a : Str} : strD (.str a) μ = .ok (.val (.str a)) μ := (rfl)
@[simp] theorem slD_l {a : List D} {lo hi : Option Int} : slD (.lst a) lo hi μ = .ok (.newL (cutL a lo hi)) μ := (rfl)
@[simp] theorem slD_t {a : List D} {lo hi : Option Int} : slD (.tup a) lo hi μ = .ok (.val (.tup (cutL a lo hi))) μ := (rfl)
@[simp] theorem slD_s {a : Str} {lo hi : Option Int} : slD (.str a) lo hi μ = if a.length ≤ sizeLine then .ok (.val (.str (cutS a lo hi))) μ else .bad := (rfl)
@[simp] theorem lr2_i {a b : Int} : lr2 (.int a) (.int b) μ = if rgOk a = true ∧ rgOk b = true ∧ (b - a).toNat ≤ 16777216 then .ok (.newL (rngD a (b - a).toNat)) μ else .bad := (rfl)
@[simp] theorem powD_i {a b : Int} : powD (.int a) (.int b) μ = if powOk a b = true then .ok (.val (.int (a ^ b.toNat))) μ else .bad := (rfl)
@[simp] theorem powOk_i {a b : Int} (h : 0 ≤ b ∧ b ≤ 1000000 ∧ -18446744073709551616 < a ∧ a < 18446744073709551616) : powOk a b = true := by
  obtain ⟨h1, h2, h3, h4⟩ := h
  obtain ⟨k, rfl⟩ : ∃ k : Nat, b = k := ⟨b.toNat, by omega⟩
  show (Nat.ble k 1000000 && Nat.ble a.natAbs 18446744073709551615) = true
  rw [Bool.and_eq_true, Nat.ble_eq, Nat.ble_eq]
  omega
@[simp] theorem posB_i {b : Int} (h : 0 < b) : posB b = true := posB_iff.mpr h
@[simp] theorem asB_v {b : Bool} : asB (.val (.bl b)) μ = .ok b μ := (rfl)
@[simp] theorem norm_v : norm (.val d) = .val d := (rfl)
@[simp] theorem norm_o : norm (.obj i) = .obj i := (rfl)
@[simp] theorem norm_L {xs : List D} : norm (.newL xs) = .val (.lst xs) := (rfl)
@[simp] theorem norm_D {xs : List (Key × D)} : norm (.newD xs) = .val (.dct xs) := (rfl)
@[simp] theorem isNonR_non : isNonR (.val .non) = true := (rfl)
@[simp] theorem isNonR_int {i : Int} : isNonR (.val (.int i)) = false := (rfl)
@[simp] theorem isNonR_tup {i : List D} : isNonR (.val (.tup i)) = false := (rfl)
@[simp] theorem isNonR_str {i : Str} : isNonR (.val (.str i)) = false := (rfl)
@[simp] theorem sm_defF {N : Nat} {rs : List R} : defF N p rs μ = fin μ.length (p ((rs.map fun r => some (norm r)) ++ List.replicate (N - rs.length) none) μ) := (rfl)
@[simp] theorem fin_rtv : fin μ.length (.rt (.val d) μ) = .ok (.val d) μ := by simp [fin, finR]
@[simp] theorem fin_rtL {xs : List D} : fin μ.length (.rt (.newL xs) μ) = .ok (.newL xs) μ := by simp [fin, finR]
@[simp] theorem fin_rtD {xs : List (Key × D)} : fin μ.length (.rt (.newD xs) μ) = .ok (.newD xs) μ := by simp [fin, finR]
@[simp] theorem fin_nx : fin μ.length (.nx s μ) = .ok (.val .non) μ := by simp [fin, finR]
@[simp] theorem fin_exc {C : Addr} : fin μ.length (.exc C s μ) = .exc C μ := by simp [fin]
@[simp] theorem fin_rtn {xs : List D} : fin μ.length (.rt (.obj μ.length) (μ ++ [.lst xs])) = .ok (.newL xs) μ := by simp [fin, finR]
@[simp] theorem fin_rtnD {xs : List (Key × D)} : fin μ.length (.rt (.obj μ.length) (μ ++ [.dct xs])) = .ok (.newD xs) μ := by simp [fin, finR]
@[simp] theorem fin_rtv1 {x : MO} : fin μ.length (.rt (.val d) (μ ++ [x])) = .ok (.val d) μ := by simp [fin, finR]
@[simp] theorem fin_rtL1 {x : MO} {xs : List D} : fin μ.length (.rt (.newL xs) (μ ++ [x])) = .ok (.newL xs) μ := by simp [fin, finR]
@[simp] theorem fin_nx1 {x : MO} : fin μ.length (.nx s (μ ++ [x])) = .ok (.val .non) μ := by simp [fin, finR]
@[simp] theorem fin_exc1 {x : MO} {C : Addr} : fin μ.length (.exc C s (μ ++ [x])) = .exc C μ := by simp [fin]
@[simp] theorem datas_nil : datas μ [] = some [] := (rfl)
@[simp] theorem datas_v {rs : List R} : datas μ (.val d :: rs) = (datas μ rs).map (d :: ·) := (rfl)
@[simp] theorem datas_L {xs : List D} {rs : List R} : datas μ (.newL xs :: rs) = (datas μ rs).map (.lst xs :: ·) := (rfl)
@[simp] theorem dataOf_v : dataOf (.val d) = some d := (rfl)
@[simp] theorem dataOf_L {xs : List D} : dataOf (.newL xs) = some (.lst xs) := (rfl)
@[simp] theorem tgName_s : tgName i d s = some (s.set i (some (.val d))) := (rfl)
@[simp] theorem tgNil_s : tgNil [] s = some s := (rfl)
@[simp] theorem tgCons_s {t : TgF} {u : TgsF} {ds : List D} : tgCons t u (d :: ds) s = (t d s).bind fun s1 => u ds s1 := (rfl)
@[simp] theorem tgTup_s {n : Nat} {t : TgsF} {ds : List D} : tgTup n t (.tup ds) s = if ds.length = n then t ds s else none := (rfl)
@[simp] theorem wipeS_nil : wipeS s [] = s := (rfl)
@[simp] theorem wipeS_cons {v : Nat} {vs : List Nat} : wipeS s (v :: vs) = (wipeS s vs).set v none := (rfl)
theorem app_o {μ : Mu} {j : Nat} {acc : List D} {d : D} (h : μ[j]? = some (.lst acc)) (hl : acc.length < sizeLine) : appR (.obj j) (.val d) μ = .ok (.val .non) (μ.set j (.lst (acc ++ [d]))) := by
  simp [appR, h, hl]
theorem isL_o {μ : Mu} {j : Nat} {acc : List D} (h : μ[j]? = some (.lst acc)) : isL (.obj j) μ = true := by simp [isL, h]
theorem rng_get {n i : Nat} {lo : Int} {d : D} (h : (rngD lo n)[i]? = some d) : i < n ∧ d = .int (lo + i) := by
  unfold rngD at h
  rw [List.getElem?_map] at h
  cases e : (List.range n)[i]? with
  | none => rw [e] at h; cases h
  | some k =>
    rw [e] at h
    have := List.getElem?_eq_some_iff.mp e
    obtain ⟨h1, h2⟩ := this
    simp at h1 h2
    subst h2
    exact ⟨h1, (Option.some.inj h).symm⟩
theorem rng_mem {n : Nat} {lo : Int} {d : D} (h : d ∈ rngD lo n) : ∃ i, i < n ∧ d = .int (lo + (i : Nat)) := by
  obtain ⟨i, hi⟩ := List.getElem?_of_mem h
  exact ⟨i, rng_get hi⟩
theorem rng_len {n : Nat} {lo : Int} : (rngD lo n).length = n := by simp [rngD]
@[simp] theorem addD_i {a b : Int} : addD (.int a) (.int b) μ = .ok (.val (.int (a + b))) μ := (rfl)
@[simp] theorem subD_i {a b : Int} : subD (.int a) (.int b) μ = .ok (.val (.int (a - b))) μ := (rfl)
@[simp] theorem ltD_i {a b : Int} : ltD (.int a) (.int b) μ = .ok (.val (.bl (decide (a < b)))) μ := (rfl)
@[simp] theorem leD_i {a b : Int} : leD (.int a) (.int b) μ = .ok (.val (.bl (decide (a ≤ b)))) μ := (rfl)
@[simp] theorem gtD_i {a b : Int} : gtD (.int a) (.int b) μ = .ok (.val (.bl (decide (b < a)))) μ := (rfl)
@[simp] theorem geD_i {a b : Int} : geD (.int a) (.int b) μ = .ok (.val (.bl (decide (b ≤ a)))) μ := (rfl)
@[simp] theorem modD_i {a b : Int} : modD (.int a) (.int b) μ = if posB b = true then .ok (.val (.int (a % b))) μ else .bad := (rfl)
@[simp] theorem divD_i {a b : Int} : divD (.int a) (.int b) μ = if divOk b = true then .ok (.val (.int (a / b))) μ else .bad := (rfl)
@[simp] theorem mulD_i {a b : Int} : mulD (.int a) (.int b) μ = if mulOk a b = true then .ok (.val (.int (a * b))) μ else .bad := (rfl)
@[simp] theorem eqR_i {a b : Int} : eqR (.int a) (.int b) μ = .ok (.val (.bl (decide (a = b)))) μ := by
  have : eqD (.int a) (.int b) = some (decide (a = b)) := by simp [eqD, toPy, PyData.depth, PyData.eqv]; rw [Bool.eq_iff_iff]; simp
  simp [eqR, this]
@[simp] theorem neR_i {a b : Int} : neR (.int a) (.int b) μ = .ok (.val (.bl (decide (a ≠ b)))) μ := by
  have : eqD (.int a) (.int b) = some (decide (a = b)) := by simp [eqD, toPy, PyData.depth, PyData.eqv]; rw [Bool.eq_iff_iff]; simp
  simp [neR, this]
@[simp] theorem eqR_s {a b : Str} : eqR (.str a) (.str b) μ = .ok (.val (.bl (decide (a = b)))) μ := (rfl)
@[simp] theorem neR_s {a b : Str} : neR (.str a) (.str b) μ = .ok (.val (.bl (!decide (a = b)))) μ := (rfl)
@[simp] theorem ixD_t {a : List D} {k : Int} : ixD (.tup a) (.int k) μ = match atI a k with | some d => .ok (.val d) μ | none => .bad := (rfl)
@[simp] theorem ixD_l {a : List D} {k : Int} : ixD (.lst a) (.int k) μ = match atI a k with | some d => .ok (.val d) μ | none => .bad := (rfl)
@[simp] theorem ixD_f {a : List D} {k : Int} : ixD (.frl a) (.int k) μ = match atI a k with | some d => .ok (.val d) μ | none => .bad := (rfl)
@[simp] theorem lenD_t {a : List D} : lenD (.tup a) μ = .ok (.val (.int a.length)) μ := (rfl)
@[simp] theorem lenD_l {a : List D} : lenD (.lst a) μ = .ok (.val (.int a.length)) μ := (rfl)
@[simp] theorem lenD_f {a : List D} : lenD (.frl a) μ = .ok (.val (.int a.length)) μ := (rfl)
@[simp] theorem intD_i {a : Int} : intD (.int a) μ = .ok (.val (.int a)) μ := (rfl)
@[simp] theorem absD_i {a : Int} : absD (.int a) μ = .ok (.val (.int (if a < 0 then -a else a))) μ := (rfl)
@[simp] theorem maxD_i {a b : Int} : maxD (.int a) (.int b) μ = .ok (.val (.int (max a b))) μ := by
  have : (if b > a then b else a) = max a b := by omega
  show Res.ok (.val (.int (if b > a then b else a))) μ = _
  rw [this]
@[simp] theorem minD_i {a b : Int} : minD (.int a) (.int b) μ = .ok (.val (.int (min a b))) μ := by
  have : (if b < a then b else a) = min a b := by omega
  show Res.ok (.val (.int (if b < a then b else a))) μ = _
  rw [this]
@[simp] theorem isiD_n {n : String} : isiD d (.ty n) μ = match tyName d with | some t => (match kitB t n with | some b => .ok (.val (.bl b)) μ | none => .bad) | none => .bad := by cases d <;> rfl
@[simp] theorem tupleD_l {a : List D} : tupleD (.lst a) μ = .ok (.val (.tup a)) μ := (rfl)
@[simp] theorem tupleD_t {a : List D} : tupleD (.tup a) μ = .ok (.val (.tup a)) μ := (rfl)
@[simp] theorem listD_l {a : List D} : listD (.lst a) μ = .ok (.newL a) μ := (rfl)
@[simp] theorem listD_t {a : List D} : listD (.tup a) μ = .ok (.newL a) μ := (rfl)
theorem atI_nat0 {α : Type} (xs : List α) (k : Nat) : atI xs (k : Int) = xs[k]? := by
  unfold atI ixN
  rw [if_pos (by omega)]
  by_cases h : k < xs.length
  · rw [if_pos (by omega)]; simp
  · rw [if_neg (by omega)]; simp; omega
@[simp] theorem atI_0 {α : Type} (xs : List α) : atI xs 0 = xs[0]? := atI_nat0 xs 0
@[simp] theorem atI_1 {α : Type} (xs : List α) : atI xs 1 = xs[1]? := atI_nat0 xs 1
@[simp] theorem atI_2 {α : Type} (xs : List α) : atI xs 2 = xs[2]? := atI_nat0 xs 2
@[simp] theorem atI_3 {α : Type} (xs : List α) : atI xs 3 = xs[3]? := atI_nat0 xs 3
@[simp] theorem tn_non : tyName .non = some "NoneType" := (rfl)
@[simp] theorem tn_bl {b : Bool} : tyName (.bl b) = some "bool" := (rfl)
@[simp] theorem tn_int {b : Int} : tyName (.int b) = some "int" := (rfl)
@[simp] theorem tn_str {b : Str} : tyName (.str b) = some "str" := (rfl)
@[simp] theorem tn_tup {b : List D} : tyName (.tup b) = some "tuple" := (rfl)
@[simp] theorem tn_lst {b : List D} : tyName (.lst b) = some "list" := (rfl)
@[simp] theorem tn_frl {b : List D} : tyName (.frl b) = some "list" := (rfl)
@[simp] theorem tn_dct {b : List (Key × D)} : tyName (.dct b) = some "dict" := (rfl)
@[simp] theorem kit_NoneType_int : kitB "NoneType" "int" = some false := by decide
@[simp] theorem kit_NoneType_bool : kitB "NoneType" "bool" = some false := by decide
@[simp] theorem kit_NoneType_str : kitB "NoneType" "str" = some false := by decide
@[simp] theorem kit_NoneType_tuple : kitB "NoneType" "tuple" = some false := by decide
@[simp] theorem kit_NoneType_list : kitB "NoneType" "list" = some false := by decide
@[simp] theorem kit_NoneType_dict : kitB "NoneType" "dict" = some false := by decide
@[simp] theorem kit_bool_int : kitB "bool" "int" = some true := by decide
@[simp] theorem kit_bool_bool : kitB "bool" "bool" = some true := by decide
@[simp] theorem kit_bool_str : kitB "bool" "str" = some false := by decide
@[simp] theorem kit_bool_tuple : kitB "bool" "tuple" = some false := by decide
@[simp] theorem kit_bool_list : kitB "bool" "list" = some false := by decide
@[simp] theorem kit_bool_dict : kitB "bool" "dict" = some false := by decide
@[simp] theorem kit_int_int : kitB "int" "int" = some true := by decide
@[simp] theorem kit_int_bool : kitB "int" "bool" = some false := by decide
@[simp] theorem kit_int_str : kitB "int" "str" = some false := by decide
@[simp] theorem kit_int_tuple : kitB "int" "tuple" = some false := by decide
@[simp] theorem kit_int_list : kitB "int" "list" = some false := by decide
@[simp] theorem kit_int_dict : kitB "int" "dict" = some false := by decide
@[simp] theorem kit_str_int : kitB "str" "int" = some false := by decide
@[simp] theorem kit_str_bool : kitB "str" "bool" = some false := by decide
@[simp] theorem kit_str_str : kitB "str" "str" = some true := by decide
@[simp] theorem kit_str_tuple : kitB "str" "tuple" = some false := by decide
@[simp] theorem kit_str_list : kitB "str" "list" = some false := by decide
@[simp] theorem kit_str_dict : kitB "str" "dict" = some false := by decide
@[simp] theorem kit_tuple_int : kitB "tuple" "int" = some false := by decide
@[simp] theorem kit_tuple_bool : kitB "tuple" "bool" = some false := by decide
@[simp] theorem kit_tuple_str : kitB "tuple" "str" = some false := by decide
@[simp] theorem kit_tuple_tuple : kitB "tuple" "tuple" = some true := by decide
@[simp] theorem kit_tuple_list : kitB "tuple" "list" = some false := by decide
@[simp] theorem kit_tuple_dict : kitB "tuple" "dict" = some false := by decide
@[simp] theorem kit_list_int : kitB "list" "int" = some false := by decide
@[simp] theorem kit_list_bool : kitB "list" "bool" = some false := by decide
@[simp] theorem kit_list_str : kitB "list" "str" = some false := by decide
@[simp] theorem kit_list_tuple : kitB "list" "tuple" = some false := by decide
@[simp] theorem kit_list_list : kitB "list" "list" = some true := by decide
@[simp] theorem kit_list_dict : kitB "list" "dict" = some false := by decide
@[simp] theorem kit_dict_int : kitB "dict" "int" = some false := by decide
@[simp] theorem kit_dict_bool : kitB "dict" "bool" = some false := by decide
@[simp] theorem kit_dict_str : kitB "dict" "str" = some false := by decide
@[simp] theorem kit_dict_tuple : kitB "dict" "tuple" = some false := by decide
@[simp] theorem kit_dict_list : kitB "dict" "list" = some false := by decide
@[simp] theorem kit_dict_dict : kitB "dict" "dict" = some true := by decide
@[simp] theorem mulOk_l {a b : Int} (h : -18446744073709551616 < a ∧ a < 18446744073709551616) : mulOk a b = true := by
  unfold mulOk; rw [Bool.or_eq_true, Bool.or_eq_true, Nat.ble_eq, Nat.ble_eq, Nat.ble_eq]; exact .inl (.inl (by omega))
@[simp] theorem mulOk_r {a b : Int} (h : -18446744073709551616 < b ∧ b < 18446744073709551616) : mulOk a b = true := by
  unfold mulOk; rw [Bool.or_eq_true, Bool.or_eq_true, Nat.ble_eq, Nat.ble_eq, Nat.ble_eq]; exact .inl (.inr (by omega))
@[simp] theorem divOk_l {b : Int} (h : 0 < b ∧ b < 340282366920938463463374607431768211456) : divOk b = true := by
  unfold divOk; rw [Bool.and_eq_true, posB_iff, Nat.ble_eq]
  refine ⟨h.1, ?_⟩
  have h2 : b.natAbs < 2 ^ 128 := by omega
  have := (Nat.log2_lt (n := b.natAbs) (k := 128) (by omega)).mpr h2
  omega
end
end Dl

namespace Dl
open PySem PySem.Spec PyProof.Rows L2
/-! ### loops, by invariants -/
theorem forL_nil {tg : TgF} {body : SF} {s : Sl} {μ : Mu} : forL tg body [] s μ = .nx s μ := rfl
theorem forL_cons {tg : TgF} {body : SF} {d : D} {ds : List D} {s : Sl} {μ : Mu} : forL tg body (d :: ds) s μ = match tg d s with
    | none => .bad
    | some s1 => match body s1 μ with
      | .nx s2 μ2 => forL tg body ds s2 μ2
      | .ct s2 μ2 => forL tg body ds s2 μ2
      | .bk s2 μ2 => .nx s2 μ2
      | .rt r μ2 => .rt r μ2
      | .exc C s2 μ2 => .exc C s2 μ2
      | .bad => .bad := rfl
theorem forL_ind {tg : TgF} {body : SF} (I : Nat → Sl → Mu → Prop) (Out : SRes → Prop) : ∀ (ds : List D) (k : Nat),
    (∀ i d s μ, ds[i]? = some d → I (k + i) s μ → ∃ s1, tg d s = some s1 ∧ ((∃ s2 μ2, (body s1 μ = .nx s2 μ2 ∨ body s1 μ = .ct s2 μ2) ∧ I (k + i + 1) s2 μ2) ∨ (∃ r μ2, body s1 μ = .rt r μ2 ∧ Out (.rt r μ2)) ∨ (∃ s2 μ2, body s1 μ = .bk s2 μ2 ∧ Out (.nx s2 μ2)) ∨ ∃ C s2 μ2, body s1 μ = .exc C s2 μ2 ∧ Out (.exc C s2 μ2))) →
    ∀ s μ, I k s μ → (∀ s μ, I (k + ds.length) s μ → Out (.nx s μ)) → Out (forL tg body ds s μ)
  | [], k, _, s, μ, h0, he => he s μ h0
  | d :: ds, k, hs, s, μ, h0, he => by
    rw [forL_cons]
    obtain ⟨s1, e1, h⟩ := hs 0 d s μ rfl h0
    rw [e1]
    dsimp only
    have next : ∀ s2 μ2, I (k + 0 + 1) s2 μ2 → Out (forL tg body ds s2 μ2) := fun s2 μ2 h2 =>
      forL_ind I Out ds (k + 1) (fun i d s μ hi h => by
        have := hs (i + 1) d s μ (by simpa using hi) (by rw [show k + (i + 1) = k + 1 + i by omega]; exact h)
        rw [show k + (i + 1) + 1 = k + 1 + i + 1 by omega] at this
        exact this) s2 μ2 h2 (fun s μ h => he s μ (by rw [List.length_cons, show k + (ds.length + 1) = k + 1 + ds.length by omega]; exact h))
    rcases h with ⟨s2, μ2, e2 | e2, h2⟩ | ⟨r, μ2, e2, h2⟩ | ⟨s2, μ2, e2, h2⟩ | ⟨C, s2, μ2, e2, h2⟩
    · rw [e2]; exact next s2 μ2 h2
    · rw [e2]; exact next s2 μ2 h2
    · rw [e2]; exact h2
    · rw [e2]; exact h2
    · rw [e2]; exact h2
/-- a turn's end -/
def Turn (I : Sl → Mu → Prop) (Out : SRes → Prop) : SRes → Prop
  | .nx s μ => I s μ
  | .ct s μ => I s μ
  | .rt r μ => Out (.rt r μ)
  | .bk s μ => Out (.nx s μ)
  | .exc C s μ => Out (.exc C s μ)
  | .bad => False
@[simp] theorem turn_nx {I : Sl → Mu → Prop} {Out : SRes → Prop} {s : Sl} {μ : Mu} : Turn I Out (.nx s μ) = I s μ := (rfl)
@[simp] theorem turn_ct {I : Sl → Mu → Prop} {Out : SRes → Prop} {s : Sl} {μ : Mu} : Turn I Out (.ct s μ) = I s μ := (rfl)
@[simp] theorem turn_rt {I : Sl → Mu → Prop} {Out : SRes → Prop} {r : R} {μ : Mu} : Turn I Out (.rt r μ) = Out (.rt r μ) := (rfl)
@[simp] theorem turn_bk {I : Sl → Mu → Prop} {Out : SRes → Prop} {s : Sl} {μ : Mu} : Turn I Out (.bk s μ) = Out (.nx s μ) := (rfl)
@[simp] theorem turn_exc {I : Sl → Mu → Prop} {Out : SRes → Prop} {C : Addr} {s : Sl} {μ : Mu} : Turn I Out (.exc C s μ) = Out (.exc C s μ) := (rfl)
theorem for_ind {tg : TgF} {body : SF} {ds : List D} {s : Sl} {μ : Mu} (I : Nat → Sl → Mu → Prop) (Out : SRes → Prop) (h0 : I 0 s μ)
    (hs : ∀ i d s μ, ds[i]? = some d → I i s μ → ∃ s1, tg d s = some s1 ∧ Turn (I (i + 1)) Out (body s1 μ)) (he : ∀ s μ, I ds.length s μ → Out (.nx s μ)) : Out (forL tg body ds s μ) :=
  forL_ind I Out ds 0 (fun i d s μ hi h => by
    rw [Nat.zero_add] at h ⊢
    obtain ⟨s1, e1, h2⟩ := hs i d s μ hi h
    refine ⟨s1, e1, ?_⟩
    cases e : body s1 μ with
    | nx s2 μ2 => rw [e] at h2; exact .inl ⟨s2, μ2, .inl rfl, h2⟩
    | ct s2 μ2 => rw [e] at h2; exact .inl ⟨s2, μ2, .inr rfl, h2⟩
    | rt r μ2 => rw [e] at h2; exact .inr (.inl ⟨r, μ2, rfl, h2⟩)
    | bk s2 μ2 => rw [e] at h2; exact .inr (.inr (.inl ⟨s2, μ2, rfl, h2⟩))
    | exc C s2 μ2 => rw [e] at h2; exact .inr (.inr (.inr ⟨C, s2, μ2, rfl, h2⟩))
    | bad => rw [e] at h2; exact h2.elim) s μ h0 (fun s μ h => he s μ (by rw [Nat.zero_add] at h; exact h))
theorem for_fin {tg : TgF} {body : SF} {ds : List D} {s : Sl} {μ : Mu} {n : Nat} {rest : SF} {res : Res} (I : Nat → Sl → Mu → Prop) (h0 : I 0 s μ)
    (hs : ∀ i d s μ, ds[i]? = some d → I i s μ → ∃ s1, tg d s = some s1 ∧ Turn (I (i + 1)) (fun r => fin n (r.bind rest) = res) (body s1 μ)) (he : ∀ s μ, I ds.length s μ → fin n (rest s μ) = res) : fin n ((forL tg body ds s μ).bind rest) = res :=
  for_ind I (fun r => fin n (r.bind rest) = res) h0 hs fun s μ h => he s μ h
theorem for_fin0 {tg : TgF} {body : SF} {ds : List D} {s : Sl} {μ : Mu} {n : Nat} {res : Res} (I : Nat → Sl → Mu → Prop) (h0 : I 0 s μ)
    (hs : ∀ i d s μ, ds[i]? = some d → I i s μ → ∃ s1, tg d s = some s1 ∧ Turn (I (i + 1)) (fun r => fin n r = res) (body s1 μ)) (he : ∀ s μ, I ds.length s μ → fin n (.nx s μ) = res) : fin n (forL tg body ds s μ) = res :=
  for_ind I (fun r => fin n r = res) h0 hs fun s μ h => he s μ h
theorem for_turn {tg : TgF} {body : SF} {ds : List D} {s : Sl} {μ : Mu} {J : Sl → Mu → Prop} {Out : SRes → Prop} (I : Nat → Sl → Mu → Prop) (h0 : I 0 s μ)
    (hs : ∀ i d s μ, ds[i]? = some d → I i s μ → ∃ s1, tg d s = some s1 ∧ Turn (I (i + 1)) (Turn J Out) (body s1 μ)) (he : ∀ s μ, I ds.length s μ → J s μ) : Turn J Out (forL tg body ds s μ) :=
  for_ind I (Turn J Out) h0 hs fun s μ h => he s μ h
theorem for_turnB {tg : TgF} {body : SF} {ds : List D} {s : Sl} {μ : Mu} {J : Sl → Mu → Prop} {Out : SRes → Prop} {rest : SF} (I : Nat → Sl → Mu → Prop) (h0 : I 0 s μ)
    (hs : ∀ i d s μ, ds[i]? = some d → I i s μ → ∃ s1, tg d s = some s1 ∧ Turn (I (i + 1)) (fun r => Turn J Out (r.bind rest)) (body s1 μ)) (he : ∀ s μ, I ds.length s μ → Turn J Out (rest s μ)) : Turn J Out ((forL tg body ds s μ).bind rest) :=
  for_ind I (fun r => Turn J Out (r.bind rest)) h0 hs fun s μ h => he s μ h
/-- a loop that goes through -/
theorem forL_run {tg : TgF} {body : SF} {ds : List D} (I : Nat → Sl → Mu → Prop)
    (hs : ∀ i d s μ, ds[i]? = some d → I i s μ → ∃ s1, tg d s = some s1 ∧ ∃ s2 μ2, (body s1 μ = .nx s2 μ2 ∨ body s1 μ = .ct s2 μ2) ∧ I (i + 1) s2 μ2) {s : Sl} {μ : Mu} (h0 : I 0 s μ) : ∃ s' μ', forL tg body ds s μ = .nx s' μ' ∧ I ds.length s' μ' :=
  forL_ind (fun i => I i) (fun r => ∃ s' μ', r = .nx s' μ' ∧ I ds.length s' μ') ds 0 (fun i d s μ hi h => by
    rw [Nat.zero_add] at h ⊢
    obtain ⟨s1, e1, s2, μ2, e2, h2⟩ := hs i d s μ hi h
    exact ⟨s1, e1, .inl ⟨s2, μ2, e2, h2⟩⟩) s μ h0 (fun s μ h => ⟨s, μ, rfl, by rw [Nat.zero_add] at h; exact h⟩)
theorem compL_nil {tg : TgF} {t : TF} {f : EF} {s : Sl} {k : Nat} {μ : Mu} : compL tg t f s k [] μ = match μ[k]? with
    | some (.lst acc) => .ok (.newL acc) (μ.take k)
    | _ => .bad := rfl
theorem compL_cons {tg : TgF} {t : TF} {f : EF} {s : Sl} {k : Nat} {d : D} {ds : List D} {μ : Mu} : compL tg t f s k (d :: ds) μ = match tg d s with
    | none => .bad
    | some s1 => match t s1 μ with
      | .ok b μ1 => if b = true then match f s1 μ1 with
        | .ok r μ2 => match dataOf r, μ2[k]? with
          | some d', some (.lst acc) => if acc.length < sizeLine then compL tg t f s k ds (μ2.set k (.lst (acc ++ [d']))) else .bad
          | _, _ => .bad
        | _ => .bad
        else compL tg t f s k ds μ1
      | _ => .bad := rfl
/-- a comprehension, its store told -/
theorem compL_ind {tg : TgF} {t : TF} {f : EF} {s : Sl} (I : Nat → Mu → List D → Prop) (n : Nat) : ∀ (ds : List D) (k : Nat),
    (∀ i d μ acc, ds[i]? = some d → I (k + i) μ acc → μ.length = n → ∃ s1, tg d s = some s1 ∧ ((∃ μ1, t s1 (μ ++ [.lst acc]) = .ok false (μ1 ++ [.lst acc]) ∧ μ1.length = n ∧ I (k + i + 1) μ1 acc) ∨
      ∃ μ1 r v μ2, t s1 (μ ++ [.lst acc]) = .ok true (μ1 ++ [.lst acc]) ∧ f s1 (μ1 ++ [.lst acc]) = .ok r (μ2 ++ [.lst acc]) ∧ dataOf r = some v ∧ μ2.length = n ∧ I (k + i + 1) μ2 (acc ++ [v]))) →
    ∀ μ acc, I k μ acc → μ.length = n → acc.length + ds.length ≤ sizeLine → ∃ μ' acc', compL tg t f s n ds (μ ++ [.lst acc]) = .ok (.newL acc') μ' ∧ μ'.length = n ∧ I (k + ds.length) μ' acc'
  | [], k, _, μ, acc, h0, hn, _ => ⟨μ, acc, by rw [compL_nil, ← hn]; simp, hn, h0⟩
  | d :: ds, k, hs, μ, acc, h0, hn, hz => by
    rw [compL_cons]
    obtain ⟨s1, e1, h⟩ := hs 0 d μ acc rfl h0 hn
    rw [e1]
    dsimp only
    have next : ∀ μ2 acc2, I (k + 0 + 1) μ2 acc2 → μ2.length = n → acc2.length + ds.length ≤ sizeLine → ∃ μ' acc', compL tg t f s n ds (μ2 ++ [.lst acc2]) = .ok (.newL acc') μ' ∧ μ'.length = n ∧ I (k + (d :: ds).length) μ' acc' := fun μ2 acc2 h2 hn2 hz2 => by
      obtain ⟨μ', acc', h1, h2, h3⟩ := compL_ind I n ds (k + 1) (fun i d μ acc hi h => by
        have := hs (i + 1) d μ acc (by simpa using hi) (by rw [show k + (i + 1) = k + 1 + i by omega]; exact h)
        rw [show k + (i + 1) + 1 = k + 1 + i + 1 by omega] at this
        exact this) μ2 acc2 h2 hn2 hz2
      exact ⟨μ', acc', h1, h2, by rw [List.length_cons, show k + (ds.length + 1) = k + 1 + ds.length by omega]; exact h3⟩
    rw [List.length_cons] at hz
    rcases h with ⟨μ1, e2, hl, h2⟩ | ⟨μ1, r, v, μ2, e2, e3, e4, hl, h2⟩
    · rw [e2]
      exact next μ1 acc h2 hl (by omega)
    · rw [e2]
      dsimp only
      rw [if_pos rfl, e3]
      dsimp only
      have e5 : (μ2 ++ [MO.lst acc])[n]? = some (.lst acc) := by rw [← hl]; simp
      rw [e4, e5]
      dsimp only
      rw [if_pos (by omega), show (μ2 ++ [MO.lst acc]).set n (.lst (acc ++ [v])) = μ2 ++ [.lst (acc ++ [v])] by rw [← hl]; simp]
      exact next μ2 (acc ++ [v]) h2 hl (by simp; omega)
/-- a comprehension without traces in the store -/
theorem comp_pure {tg : TgF} {t : TF} {f : EF} {s : Sl} {μ : Mu} {k : Nat} {ds : List D} (p : D → Bool) (g : D → D)
    (h : ∀ d ∈ ds, ∃ s1, tg d s = some s1 ∧ ∀ acc, t s1 (μ ++ [.lst acc]) = .ok (p d) (μ ++ [.lst acc]) ∧ (p d = true → ∃ r, f s1 (μ ++ [.lst acc]) = .ok r (μ ++ [.lst acc]) ∧ dataOf r = some (g d))) (hl : ds.length ≤ sizeLine) (hk : k = μ.length := by simp) :
    compL tg t f s k ds (μ ++ [.lst []]) = .ok (.newL ((ds.filter p).map g)) μ := by
  subst hk
  obtain ⟨μ', acc', h1, h2, h3, h4⟩ := compL_ind (tg := tg) (t := t) (f := f) (s := s) (fun i m acc => m = μ ∧ acc = ((ds.take i).filter p).map g) μ.length ds 0 (fun i d m acc hi hI hm => by
    obtain ⟨rfl, rfl⟩ := hI
    rw [Nat.zero_add] at *
    obtain ⟨s1, e1, h1⟩ := h d (List.mem_of_getElem? hi)
    obtain ⟨e2, e3⟩ := h1 (((ds.take i).filter p).map g)
    have et : ds.take (i + 1) = ds.take i ++ [d] := by
      rw [List.take_succ, hi]; rfl
    refine ⟨s1, e1, ?_⟩
    cases hp : p d with
    | false => exact .inl ⟨m, by rw [e2, hp], rfl, rfl, by rw [et, List.filter_append]; simp [hp]⟩
    | true =>
      obtain ⟨r, e4, e5⟩ := e3 hp
      exact .inr ⟨m, r, g d, m, by rw [e2, hp], e4, e5, rfl, rfl, by rw [et, List.filter_append]; simp [hp]⟩) μ [] ⟨rfl, by simp⟩ rfl (by simpa using hl)
  rw [h1, h3, h4]
  simp
theorem comp_all {tg : TgF} {f : EF} {s : Sl} {μ : Mu} {k : Nat} {ds : List D} (g : D → D)
    (h : ∀ d ∈ ds, ∃ s1, tg d s = some s1 ∧ ∀ acc, ∃ r, f s1 (μ ++ [.lst acc]) = .ok r (μ ++ [.lst acc]) ∧ dataOf r = some (g d)) (hl : ds.length ≤ sizeLine) (hk : k = μ.length := by simp) :
    compL tg tYesF f s k ds (μ ++ [.lst []]) = .ok (.newL (ds.map g)) μ := by
  rw [comp_pure (fun _ => true) g (fun d hd => by
    obtain ⟨s1, e1, h1⟩ := h d hd
    exact ⟨s1, e1, fun acc => ⟨rfl, fun _ => h1 acc⟩⟩) hl hk]
  rw [List.filter_eq_self.mpr (fun _ _ => rfl)]
/-- the store grows at its end: reading below -/
@[simp] theorem get_app {μ : Mu} {i : Nat} {m n : MO} (h : μ[i]? = some m) : (μ ++ [n])[i]? = some m := by
  rw [List.getElem?_append_left (List.getElem?_eq_some_iff.mp h).1]; exact h
theorem le_line {n : Nat} (h : n ≤ 16777216) : n ≤ sizeLine := by rw [sizeLine_eq]; exact h
/-! ### sorting by a key -/
theorem key_inj {α : Type} {key : α → Int} : ∀ {l : List α}, l.Pairwise (fun a b => key a < key b) → ∀ a ∈ l, ∀ b ∈ l, key a = key b → a = b
  | [], _, a, h, _, _, _ => by cases h
  | c :: l, hl, a, ha, b, hb, e => by
    obtain ⟨h3, h4⟩ := List.pairwise_cons.mp hl
    rcases List.mem_cons.mp ha with ha | ha <;> rcases List.mem_cons.mp hb with hb | hb
    · rw [ha, hb]
    · have := h3 b hb; rw [ha] at e; omega
    · have := h3 a ha; rw [hb] at e; omega
    · exact key_inj h4 a ha b hb e
theorem sort_key {α : Type} (key : α → Int) (xs ys : List α) (hp : ys.Perm xs) (hs : ys.Pairwise fun a b => key a < key b) : xs.mergeSort (fun a b => decide (key a ≤ key b)) = ys := by
  have h1 := List.pairwise_mergeSort (le := fun a b : α => decide (key a ≤ key b)) (fun a b c h h' => by simp at *; omega) (fun a b => by simp; omega) xs
  have h2 := List.mergeSort_perm xs (fun a b : α => decide (key a ≤ key b))
  refine List.Perm.eq_of_pairwise (le := fun a b => key a ≤ key b) (fun a b ha hb h h' => ?_) (h1.imp fun h => by simpa using h) (hs.imp fun h => by omega) (h2.trans hp.symm)
  have ha' : a ∈ ys := hp.symm.mem_iff.mp (h2.mem_iff.mp ha)
  exact key_inj hs a ha' b hb (by omega)
theorem leS_head {x y : Int} {xs ys : List D} (h : x ≠ y) (h1 : (toPys xs).isSome = true) (h2 : (toPys ys).isSome = true) : leS (.tup (.int x :: xs)) (.tup (.int y :: ys)) = decide (x ≤ y) := by
  cases e1 : toPys xs with
  | none => rw [e1] at h1; cases h1
  | some ps =>
    cases e2 : toPys ys with
    | none => rw [e2] at h2; cases h2
    | some qs =>
      have d1 : dEnc (.tup (.int x :: xs)) = .tuple (.int x :: ps) := by simp [dEnc, toPy, toPys, e1]
      have d2 : dEnc (.tup (.int y :: ys)) = .tuple (.int y :: qs) := by simp [dEnc, toPy, toPys, e2]
      show (!PySem.W.dataLt (dEnc (.tup (.int y :: ys))) (dEnc (.tup (.int x :: xs)))) = _
      rw [d1, d2, PySem.W.dataLt_tuple, PySem.W.dataLt_cons (by simp [PySem.W.alike]), if_neg (by simp [PyData.eqv]; exact fun z => h z.symm), PySem.W.dataLt_int]
      rw [Bool.eq_iff_iff]; simp
theorem leS_self (d : D) : leS d d = true := by
  show (!PySem.W.dataLt (dEnc d) (dEnc d)) = true
  have : PySem.W.dataLt (dEnc d) (dEnc d) = false := PyProof.Rows.lex_irrefl _
  rw [this]; rfl
/-- rows by their first numbers, all of them others -/
theorem sort_rows {α : Type} (key : α → Int) (enc : α → D) (xs ys : List α) (he : ∀ a ∈ xs, ∃ r, enc a = .tup (.int (key a) :: r) ∧ (toPys r).isSome = true) (hp : ys.Perm xs) (hs : ys.Pairwise fun a b => key a < key b) :
    (xs.map enc).mergeSort leS = ys.map enc := by
  rw [← sort_key key xs ys hp hs]
  refine (List.map_mergeSort (fun a ha b hb => ?_)).symm
  obtain ⟨r, e1, h1⟩ := he a ha
  obtain ⟨r', e2, h2⟩ := he b hb
  by_cases e : key a = key b
  · have ab : a = b := by
      have ha' := hp.symm.mem_iff.mp ha
      have hb' := hp.symm.mem_iff.mp hb
      exact key_inj hs a ha' b hb' e
    subst ab
    rw [leS_self]; simp
  · rw [e1, e2, leS_head e h1 h2]
theorem sortOk_rows {α : Type} (enc : α → D) (py : α → PyData) (xs : List α) (h1 : ∀ a ∈ xs, toPy (enc a) = some (py a)) (h2 : ∀ a ∈ xs, (py a).depth ≤ 32) (h3 : ∀ a ∈ xs, rowB (py a) = true) (h4 : ∀ a ∈ xs, ∀ b ∈ xs, PySem.W.alike (py a) (py b) = true) : sortOk (xs.map enc) = true := by
  have e : ∀ a ∈ xs, dEnc (enc a) = py a := fun a ha => by unfold dEnc; rw [h1 a ha]; rfl
  unfold sortOk
  rw [Bool.and_eq_true, Bool.and_eq_true, Bool.or_eq_true]
  refine ⟨⟨List.all_eq_true.mpr fun d hd => ?_, List.all_eq_true.mpr fun d hd => List.all_eq_true.mpr fun d' hd' => ?_⟩, .inl (List.all_eq_true.mpr fun d hd => ?_)⟩
  · obtain ⟨a, ha, rfl⟩ := List.mem_map.mp hd
    rw [h1 a ha, e a ha]
    simpa using h2 a ha
  · obtain ⟨a, ha, rfl⟩ := List.mem_map.mp hd
    obtain ⟨b, hb, rfl⟩ := List.mem_map.mp hd'
    rw [e a ha, e b hb]
    exact h4 a ha b hb
  · obtain ⟨a, ha, rfl⟩ := List.mem_map.mp hd
    rw [e a ha]
    exact h3 a ha
/-! ### texts -/
def txt (l : List Nat) : Str := ⟨l.toArray⟩
theorem txt_cps (x : Str) : x = txt x.cps.toList := by cases x; simp [txt]
@[simp] theorem txt_len (l : List Nat) : (txt l).length = l.length := by simp [txt, Str.length]
@[simp] theorem txt_inj {a b : List Nat} : txt a = txt b ↔ a = b := by simp [txt]
@[simp] theorem txt_list (l : List Nat) : (txt l).cps.toList = l := by simp [txt]
theorem cutS_t (z : List Nat) (lo hi : Option Int) : cutS (txt z) lo hi = txt (cutL z lo hi) := by
  unfold cutS cutL; simp [txt, Str.length]
theorem foldl_cps : ∀ (ls : List (List Nat)) (acc : Array Nat), (ls.map txt).foldl (fun acc p => acc ++ (txt []).cps ++ p.cps) acc = acc ++ ls.flatten.toArray
  | [], acc => by simp
  | l :: ls, acc => by
    rw [List.map_cons, List.foldl_cons, foldl_cps ls]
    simp [txt]
theorem join_t (ls : List (List Nat)) : Txt.join (txt []) (ls.map txt) = txt ls.flatten := by
  cases ls with
  | nil => rfl
  | cons l ls =>
    show (⟨((l :: ls).map txt |>.drop 1).foldl (fun acc p => acc ++ (txt []).cps ++ p.cps) ((l :: ls).map txt |>.headD Str.empty).cps⟩ : Str) = _
    rw [List.map_cons, List.drop_one, List.tail_cons, foldl_cps]
    simp [txt]
theorem asStrs_t : ∀ ls : List (List Nat), asStrs (ls.map fun l => .str (txt l)) = some (ls.map txt)
  | [] => rfl
  | l :: ls => by rw [List.map_cons, asStrs, asStrs_t ls]; rfl
theorem empty_t : (Str.ofString "" : Str) = txt [] := by rfl
@[simp] theorem inR_sign {c : Nat} {z : Str} {μ : Mu} : inR (.str ⟨#[c]⟩) (.str z) μ = .ok (.val (.bl (decide (c ∈ z.cps.toList)))) μ := by
  have : inD (.str ⟨#[c]⟩) (.str z) = some (decide (c ∈ z.cps.toList)) := by
    show some _ = _
    rw [PySem.StrLaws.found_one z c]
  unfold inR
  rw [this]
theorem asBools_map {α : Type} (p : α → Bool) : ∀ l : List α, asBools (l.map fun k => .bl (p k)) = some (l.map p)
  | [] => rfl
  | x :: l => by rw [List.map_cons, asBools, asBools_map p l]; rfl
theorem asInts_map {α : Type} (p : α → Int) : ∀ l : List α, asInts (l.map fun k => .int (p k)) = some (l.map p)
  | [] => rfl
  | x :: l => by rw [List.map_cons, asInts, asInts_map p l]; rfl
theorem deref_o {μ : Mu} {j : Nat} {xs : List D} (h : μ[j]? = some (.lst xs)) : deref μ (.obj j) = some (.lst xs) := by simp [deref, h]
theorem two_ov {μ : Mu} {j : Nat} {xs : List D} {f : D → D → Mu → Res} {d : D} (h : μ[j]? = some (.lst xs)) : two f (.obj j) (.val d) μ = f (.lst xs) d μ := by simp [two, deref_o h]
theorem one_o {μ : Mu} {j : Nat} {xs : List D} {f : D → Mu → Res} (h : μ[j]? = some (.lst xs)) : one f (.obj j) μ = f (.lst xs) μ := by simp [one, deref_o h]
theorem fin_v {n : Nat} {d : D} {μ : Mu} (h : n = μ.length) : fin n (.rt (.val d) μ) = .ok (.val d) μ := by subst h; simp
theorem fin_L {n : Nat} {xs : List D} {μ : Mu} (h : n = μ.length) : fin n (.rt (.newL xs) μ) = .ok (.newL xs) μ := by subst h; simp
theorem fin_n {n : Nat} {s : Sl} {μ : Mu} (h : n = μ.length) : fin n (.nx s μ) = .ok (.val .non) μ := by subst h; simp
theorem fin_e {n : Nat} {s : Sl} {μ : Mu} {C : Addr} (h : n = μ.length) : fin n (.exc C s μ) = .exc C μ := by subst h; simp
@[simp] theorem eqR_b {a b : Bool} {μ : Mu} : eqR (.bl a) (.bl b) μ = .ok (.val (.bl (decide (a = b)))) μ := by
  have : eqD (.bl a) (.bl b) = some (decide (a = b)) := by cases a <;> cases b <;> rfl
  unfold eqR; rw [this]
@[simp] theorem neR_b {a b : Bool} {μ : Mu} : neR (.bl a) (.bl b) μ = .ok (.val (.bl (decide (a ≠ b)))) μ := by
  have : eqD (.bl a) (.bl b) = some (decide (a = b)) := by cases a <;> cases b <;> rfl
  unfold neR; rw [this]
  cases a <;> cases b <;> rfl
end Dl

namespace Dl
open PySem PySem.Spec PyProof.Rows L2
/-! ### dicts, defs as values, refusals: how to reckon -/
section
variable {s : Sl} {μ : Mu} {f g fa fb fc : EF} {fs : AF} {tab : FTab} {i j n : Nat}
@[simp] theorem sm_eRef {er : Addr → Option Str} : eRef er f s μ = refK er (f s μ) := (rfl)
@[simp] theorem refK_ok {er : Addr → Option Str} {r : R} : refK er (.ok r μ) = .ok (.val (.str "")) μ := (rfl)
theorem refK_exc {er : Addr → Option Str} {C : Addr} {x : Str} (h : er C = some x) : refK er (.exc C μ) = .ok (.val (.str x)) μ := by show (match er C with | some x => Res.ok (.val (.str x)) μ | none => .bad) = _; rw [h]
def calK (fs : AF) (s : Sl) (μ : Mu) : Option (Addr × Nat × FF) → Res
  | some (_, n, F) => eFn n F fs s μ
  | none => .bad
@[simp] theorem calK_s {f : Addr} {F : FF} : calK fs s μ (some (f, n, F)) = eFn n F fs s μ := (rfl)
@[simp] theorem sm_eFnV : eFnV tab i fs s μ = calK fs s μ (calleeV tab s[i]?) := by
  unfold eFnV calK
  cases calleeV tab s[i]? with
  | none => rfl
  | some q => rfl
theorem calleeV_s {f : Addr} {F : FF} (h : tab j = some (f, n, F)) : calleeV tab (some (some (.val (.fn f j)))) = some (f, n, F) := by
  unfold calleeV
  simp [h]
def ldK : R → Mu → ResL
  | .val (.dct kvs), μ => .ok (kvs.map fun kv => keyD kv.1) μ
  | .newD kvs, μ => .ok (kvs.map fun kv => keyD kv.1) μ
  | _, _ => .bad
@[simp] theorem ldK_v {kvs : List (Key × D)} : ldK (.val (.dct kvs)) μ = .ok (kvs.map fun kv => keyD kv.1) μ := (rfl)
@[simp] theorem ldK_D {kvs : List (Key × D)} : ldK (.newD kvs) μ = .ok (kvs.map fun kv => keyD kv.1) μ := (rfl)
@[simp] theorem sm_lD : lD f s μ = (f s μ).bindL ldK := bindL_ext fun x μ1 => by
  cases x with
  | val d => cases d <;> rfl
  | _ => rfl
@[simp] theorem sm_eDnew : eDnew s μ = .ok (.newD []) μ := (rfl)
@[simp] theorem aAll_nil : aAll [] = aNil := (rfl)
@[simp] theorem aAll_cons {l : List EF} : aAll (f :: l) = aCons f (aAll l) := (rfl)
def dispK2 (ks : List Key) (n : Nat) (μ : Mu) : Option (List D) → Option MO → Res
  | some ds, some (.dct []) => if ds.length ≤ 15 then .ok (.newD (mergeD [] (ks.zip ds))) (μ.take n) else .bad
  | _, _ => .bad
def dispK (ks : List Key) (n : Nat) : ResA → Res
  | .ok rs μ1 => dispK2 ks n μ1 (datas μ1 rs) μ1[n]?
  | _ => .bad
@[simp] theorem dispK_s {ks : List Key} {rs : List R} : dispK ks n (.ok rs μ) = dispK2 ks n μ (datas μ rs) μ[n]? := (rfl)
@[simp] theorem dispK2_s {ks : List Key} {ds : List D} : dispK2 ks n μ (some ds) (some (.dct [])) = if ds.length ≤ 15 then .ok (.newD (mergeD [] (ks.zip ds))) (μ.take n) else .bad := (rfl)
@[simp] theorem sm_eDisp {l : List (Key × EF)} : eDisp l s μ = dispK (l.map (·.1)) μ.length (aAll (l.map (·.2)) s (μ ++ [.dct []])) := by
  unfold eDisp dispK
  cases aAll (l.map (·.2)) s (μ ++ [.dct []]) with
  | ok rs μ1 =>
    dsimp only
    unfold dispK2
    cases datas μ1 rs with
    | none => rfl
    | some ds =>
      cases μ1[μ.length]? with
      | none => rfl
      | some m => cases m with
        | dct k => cases k <;> rfl
        | _ => rfl
  | _ => rfl
/-- d[k] = v -/
def putD4 (s : Sl) (j : Nat) (d : D) (μ : Mu) : Option Key → Option MO → SRes
  | some k, some (.dct kvs) => if kvs.length < sizeLine then .nx s (μ.set j (.dct (putKD kvs k d))) else .bad
  | _, _ => .bad
def putD3 (s : Sl) (y x z : R) (μ : Mu) : SRes := match dataOf y, x, deref μ z with
  | some d, .obj j, some dk => putD4 s j d μ (keyOf dk) μ[j]?
  | _, _, _ => .bad
def putD2 (fc : EF) (s : Sl) (y x : R) (μ : Mu) : SRes := (fc s μ).bindS s (putD3 s y x)
def putD1 (fb fc : EF) (s : Sl) (y : R) (μ : Mu) : SRes := (fb s μ).bindS s (putD2 fc s y)
@[simp] theorem putD1_s {y : R} : putD1 fb fc s y μ = (fb s μ).bindS s (putD2 fc s y) := (rfl)
@[simp] theorem putD2_s {y x : R} : putD2 fc s y x μ = (fc s μ).bindS s (putD3 s y x) := (rfl)
@[simp] theorem putD3_i {d : D} {k : Int} : putD3 s (.val d) (.obj j) (.val (.int k)) μ = putD4 s j d μ (some (.inl k)) μ[j]? := (rfl)
@[simp] theorem putD3_s {d : D} {k : Str} : putD3 s (.val d) (.obj j) (.val (.str k)) μ = putD4 s j d μ (some (.inr k)) μ[j]? := (rfl)
@[simp] theorem putD4_s {d : D} {k : Key} {kvs : List (Key × D)} : putD4 s j d μ (some k) (some (.dct kvs)) = if kvs.length < sizeLine then .nx s (μ.set j (.dct (putKD kvs k d))) else .bad := (rfl)
@[simp] theorem sm_sPutD : sPutD fa fb fc s μ = (fa s μ).bindS s (putD1 fb fc s) := bindS_ext fun y μ1 => bindS_ext fun x μ2 => bindS_ext fun z μ3 => by
  unfold putD3
  cases dataOf y with
  | none => rfl
  | some d =>
    cases x with
    | obj j =>
      cases deref μ3 z with
      | none => rfl
      | some dk =>
        dsimp only
        unfold putD4
        cases keyOf dk with
        | none => rfl
        | some k => cases μ3[j]? with
          | none => rfl
          | some m => cases m <;> rfl
    | _ => cases deref μ3 z <;> rfl
end
/-! ### the words of an error -/
theorem isE_s {kit : Addr → Option Bool} {a D : Addr} {b : Bool} {j k : Nat} {μ : Mu} (h : kit D = some b) : isE kit a [.val (.fn a j), .val (.fn D k)] μ = .ok (.val (.bl b)) μ := by simp [isE, h]
def encW (kit : Addr → Option Bool) (w : Str × Addr) : D := .tup [.str w.1, .bl ((kit w.2).getD false)]
theorem len_filter_sum {α : Type} (p : α → Bool) (f : α → Nat) : ∀ l : List α, ((l.filter p).map f).sum ≤ (l.map f).sum
  | [] => Nat.le_refl _
  | x :: l => by
    have := len_filter_sum p f l
    rw [List.filter_cons]
    split <;> simp <;> omega
theorem asStrs_map {α : Type} (f : α → Str) : ∀ l : List α, asStrs (l.map fun x => .str (f x)) = some (l.map f)
  | [] => rfl
  | x :: l => by rw [List.map_cons, asStrs, asStrs_map f l]; rfl
theorem err_comp (ws : List (Str × Addr)) (kit : Addr → Option Bool) (h : ∀ w ∈ ws, ∃ b, kit w.2 = some b) (hl : ws.length ≤ 1000) (e j : Option R) (μ : Mu) :
    compL (tgTup 2 (tgCons (tgName 2) (tgCons (tgName 3) (tgNil)))) (tOf (eVarN 3)) (eVarN 2) [e, j, none, none] μ.length (ws.map (encW kit)) (μ ++ [.lst []]) = .ok (.newL ((ws.filter fun w => kit w.2 == some true).map fun w => .str w.1)) μ := by
  rw [comp_pure (fun d => match d with | .tup [_, .bl b] => b | _ => false) (fun d => match d with | .tup [x, _] => x | _ => .non) (fun d hd => ?_) (by rw [List.length_map]; exact le_line (by omega)) rfl]
  · rw [List.filter_map, List.map_map]
    rw [List.filter_congr (q := fun w => kit w.2 == some true) fun w hw => by
      obtain ⟨b, hb⟩ := h w hw
      simp [encW, hb]]
    rfl
  · obtain ⟨w, hw, rfl⟩ := List.mem_map.mp hd
    obtain ⟨b, hb⟩ := h w hw
    exact ⟨_, rfl, fun acc => ⟨by simp [encW], fun _ => ⟨.val (.str w.1), by simp, rfl⟩⟩⟩
theorem err_join (ws : List (Str × Addr)) (p : Str × Addr → Bool) (sep : Str) (hs : (ws.map (·.1.length)).sum + ws.length * sep.length ≤ 16777216) (μ : Mu) : joinD (.str sep) (.lst ((ws.filter p).map fun w => .str w.1)) μ = .ok (.val (.str (Txt.join sep ((ws.filter p).map (·.1))))) μ := by
  rw [joinD_s, asStrs_map (fun w : Str × Addr => w.1)]
  dsimp only
  rw [if_pos]
  have h1 := len_filter_sum p (fun w : Str × Addr => w.1.length) ws
  have h2 := List.length_filter_le p ws
  have h3 := Nat.mul_le_mul_right sep.length h2
  rw [List.map_map, List.length_map]
  simp only [Function.comp_def]
  omega
/-! ### equality of plain data -/
inductive Fl : Nat → D → Prop
  | non {n : Nat} : Fl n .non
  | bl {n : Nat} (b : Bool) : Fl n (.bl b)
  | int {n : Nat} (i : Int) : Fl n (.int i)
  | str {n : Nat} (x : Str) (h : PyData.canLay0 (.str x) = true) : Fl n (.str x)
  | tup {n : Nat} {xs : List D} (h : ∀ d ∈ xs, Fl n d) : Fl (n + 1) (.tup xs)
  | lst {n : Nat} {xs : List D} (h : ∀ d ∈ xs, Fl n d) : Fl (n + 1) (.lst xs)
theorem fl_all {n : Nat} : ∀ {xs : List D}, (∀ d ∈ xs, ∃ p, toPy d = some p ∧ p.depth ≤ n ∧ PyData.eqv p p = true) → ∃ ps, toPys xs = some ps ∧ PyData.depthAll ps ≤ n ∧ PyData.eqvAll ps ps = true
  | [], _ => ⟨[], rfl, Nat.zero_le _, rfl⟩
  | x :: xs, h => by
    obtain ⟨p, h1, h2, h3⟩ := h x List.mem_cons_self
    obtain ⟨ps, k1, k2, k3⟩ := fl_all fun d hd => h d (List.mem_cons_of_mem _ hd)
    refine ⟨p :: ps, by rw [toPys, h1, k1], ?_, ?_⟩
    · rw [PyData.depthAll]; omega
    · rw [PyData.eqvAll, h3, k3]; rfl
theorem Fl.py {n : Nat} {d : D} (h : Fl n d) : ∃ p, toPy d = some p ∧ p.depth ≤ n ∧ PyData.eqv p p = true := by
  induction h with
  | non => exact ⟨.none, rfl, by simp [PyData.depth], rfl⟩
  | bl b => exact ⟨.bool b, rfl, by simp [PyData.depth], by simp [PyData.eqv]⟩
  | int i => exact ⟨.int i, rfl, by simp [PyData.depth], by simp [PyData.eqv]⟩
  | str x h => exact ⟨.str x, by rw [toPy, if_pos h], by simp [PyData.depth], by simp [PyData.eqv]⟩
  | tup h ih =>
    obtain ⟨ps, k1, k2, k3⟩ := fl_all ih
    exact ⟨.tuple ps, by rw [toPy, k1]; rfl, by rw [PyData.depth]; omega, by rw [PyData.eqv]; exact k3⟩
  | lst h ih =>
    obtain ⟨ps, k1, k2, k3⟩ := fl_all ih
    exact ⟨.list ps, by rw [toPy, k1]; rfl, by rw [PyData.depth]; omega, by rw [PyData.eqv]; exact k3⟩
theorem Fl.eqD {d : D} (h : Fl 60 d) : Dl.eqD d d = some true := by
  obtain ⟨p, h1, h2, h3⟩ := h.py
  cases d with
  | str x => simp [Dl.eqD]
  | _ => simp only [Dl.eqD, h1]; rw [if_pos ⟨by omega, by omega⟩, h3]
theorem Fl.eqR {d : D} (h : Fl 60 d) (μ : Mu) : Dl.eqR d d μ = .ok (.val (.bl true)) μ := by unfold Dl.eqR; rw [h.eqD]
theorem Fl.neR {d : D} (h : Fl 60 d) (μ : Mu) : Dl.neR d d μ = .ok (.val (.bl false)) μ := by unfold Dl.neR; rw [h.eqD]; rfl
theorem eqD_nil {xs : List D} (h : Fl 60 (.lst xs)) : Dl.eqD (.lst xs) (.lst []) = some xs.isEmpty := by
  obtain ⟨p, h1, h2, _⟩ := h.py
  have e2 : toPy (.lst []) = some (.list []) := rfl
  simp only [Dl.eqD, h1, e2]
  rw [if_pos ⟨by omega, by simp [PyData.depth, PyData.depthAll]⟩]
  rw [toPy] at h1
  cases q : toPys xs with
  | none => rw [q] at h1; cases h1
  | some ps =>
    rw [q] at h1
    cases h1
    cases xs with
    | nil => cases q; rfl
    | cons x xs =>
      rw [toPys] at q
      split at q
      · cases q; rfl
      · cases q
theorem eqR_nil {xs : List D} (h : Fl 60 (.lst xs)) (μ : Mu) : Dl.eqR (.lst xs) (.lst []) μ = .ok (.val (.bl xs.isEmpty)) μ := by unfold Dl.eqR; rw [eqD_nil h]
theorem neR_nil {xs : List D} (h : Fl 60 (.lst xs)) (μ : Mu) : Dl.neR (.lst xs) (.lst []) μ = .ok (.val (.bl (!xs.isEmpty))) μ := by unfold Dl.neR; rw [eqD_nil h]
theorem eqT_nil {xs : List D} (h : Fl 60 (.tup xs)) (μ : Mu) : Dl.eqR (.tup xs) (.tup []) μ = .ok (.val (.bl xs.isEmpty)) μ := by
  have e : Dl.eqD (.tup xs) (.tup []) = some xs.isEmpty := by
    obtain ⟨p, h1, h2, _⟩ := h.py
    have e2 : toPy (.tup []) = some (.tuple []) := rfl
    simp only [Dl.eqD, h1, e2]
    rw [if_pos ⟨by omega, by simp [PyData.depth, PyData.depthAll]⟩]
    rw [toPy] at h1
    cases q : toPys xs with
    | none => rw [q] at h1; cases h1
    | some ps =>
      rw [q] at h1
      cases h1
      cases xs with
      | nil => cases q; rfl
      | cons x xs =>
        rw [toPys] at q
        split at q
        · cases q; rfl
        · cases q
  unfold Dl.eqR; rw [e]
end Dl

namespace Dl
open PySem PySem.Spec PyProof.Rows L2
/-! ### is of bools -/
def isBR (a b : D) (μ : Mu) : Res := match a, b with
  | .bl x, .bl y => .ok (.val (.bl (decide (x = y)))) μ
  | _, _ => .bad
def notBR (a b : D) (μ : Mu) : Res := match a, b with
  | .bl x, .bl y => .ok (.val (.bl (!decide (x = y)))) μ
  | _, _ => .bad
@[simp] theorem isBR_b {x y : Bool} {μ : Mu} : isBR (.bl x) (.bl y) μ = .ok (.val (.bl (decide (x = y)))) μ := (rfl)
@[simp] theorem notBR_b {x y : Bool} {μ : Mu} : notBR (.bl x) (.bl y) μ = .ok (.val (.bl (!decide (x = y)))) μ := (rfl)
section
variable {c : Cc} {W : WX}
theorem b_isB : Bin2 c W isBR rIsB := by
  intro ρ s μ σ H r1 r2 v1 v2 a b Q ok e1 e2 t1 t2 p
  unfold isBR at p
  split at p
  · rename_i x y
    cases rep_of ok.g t1 e1
    cases rep_of ok.g t2 e2
    exact ⟨_, _, rfl, rfl, p.val ok (.bl _)⟩
  · exact p.elim
theorem b_notB : Bin2 c W notBR rNotB := by
  intro ρ s μ σ H r1 r2 v1 v2 a b Q ok e1 e2 t1 t2 p
  unfold notBR at p
  split at p
  · rename_i x y
    cases rep_of ok.g t1 e1
    cases rep_of ok.g t2 e2
    exact ⟨_, _, rfl, rfl, p.val ok (.bl _)⟩
  · exact p.elim
end
end Dl

namespace Dl
open PySem PySem.Spec PyProof.Rows L2
/-! ### a tuple times 0 or 1 -/
theorem tuple_mul1 (l : Addr) (items : Array Value) (n : Nat) (dd : Option Addr) (sl : Array (Option Value)) (x : Int) (u : Tok) (c0 : (decide (x < -(2 ^ 63)) || decide (x ≥ 2 ^ 63)) = false) (c1 : (items.isEmpty || x == 1) = true) :
    Meets (Builtin.«tuple.__mul__» ⟨[.ref l, .int x u], []⟩) (fun _ R s => s.heap.get? l = some { cls := .type "tuple", dict := dd, data := .seq items n, slots := sl } ∧ R (.ok (.ret (Value.ref l))) s) :=
  .of_wp fun prog w A R s h => by
    obtain ⟨hp, g, d, tk, os⟩ := s
    obtain ⟨hl, h⟩ := h
    have f1 := AutoSeq1.idx_int
    wp_walk using wpAny_loadPart' hl
    repeat (first
      | (refine wpAny_ite_false (decide_eq_false (by rw [c0]; exact Bool.false_ne_true)) ?_; wp_walk using wpAny_loadPart' hl)
      | (refine wpAny_ite_true (decide_eq_true c1) ?_; wp_walk using wpAny_loadPart' hl))
    exact ⟨_, rfl, h⟩
theorem tuple_mul0 (l : Addr) (items : Array Value) (n : Nat) (dd : Option Addr) (sl : Array (Option Value)) (x : Int) (u : Tok) (c0 : (decide (x < -(2 ^ 63)) || decide (x ≥ 2 ^ 63)) = false) (c1 : (items.isEmpty || x == 1) = false) (c2 : (decide (x ≤ 0) || items.isEmpty) = true) :
    Meets (Builtin.«tuple.__mul__» ⟨[.ref l, .int x u], []⟩) (fun _ R s => s.heap.get? l = some { cls := .type "tuple", dict := dd, data := .seq items n, slots := sl } ∧
      R (.ok (.ret (Value.ref s.heap.objs.size))) { s with heap := s.heap.push { cls := Value.type "tuple", data := Data.seq #[] }, toks := s.toks }) :=
  .of_wp fun prog w A R s h => by
    obtain ⟨hp, g, d, tk, os⟩ := s
    obtain ⟨hl, h⟩ := h
    have f1 := AutoSeq1.idx_int
    wp_walk using wpAny_loadPart' hl
    repeat (first
      | (refine wpAny_ite_false (decide_eq_false (by rw [c0]; exact Bool.false_ne_true)) ?_; wp_walk using wpAny_loadPart' hl)
      | (refine wpAny_ite_false (decide_eq_false (by rw [c1]; exact Bool.false_ne_true)) ?_; wp_walk using wpAny_loadPart' hl)
      | (refine wpAny_ite_true (decide_eq_true c2) ?_; wp_walk using wpAny_loadPart' hl))
    exact ⟨_, rfl, h⟩
def rRepZ (K : PySem.W.Frag) : R2 := fun x y H Q => ∃ l k xs, x = .ref l ∧ y = .int k ∧ SqT K H l xs ∧ xs ≠ [] ∧ -1000 ≤ k ∧ k ≤ 1 ∧ (k = 1 → Q (.ref l) H) ∧ (k ≤ 0 → ∀ p, H p = none → Q (.ref p) (upd H p (.tup [])))
section
variable {X : Cx}
theorem op_repZ : OpR X (binaryOp .Mult) (rRepZ X.K) := by
  intro pins s σ H x y v u Q I rx ry h
  obtain ⟨l, k, xs, rfl, rfl, hT, hne, h1, h2, qa, qb⟩ := h
  cases rx
  obtain ⟨t, rfl⟩ := ry
  obtain ⟨its, r, ⟨⟨cls, dd, data, sl⟩, ho, hc, n, hd⟩, hs⟩ := I.tuple hT
  simp only at hc hd
  subst hc hd
  have hle : its.length = xs.length := r.length.symm
  have hn : its ≠ [] := fun e => hne (by
    rw [e] at hle
    exact List.eq_nil_of_length_eq_zero hle.symm)
  have hi : its.toArray.isEmpty = false := by
    cases its with
    | nil => exact absurd rfl hn
    | cons a b => rfl
  have c0 : (decide (k < -(2 ^ 63)) || decide (k ≥ 2 ^ 63)) = false := by
    rw [decide_eq_false (by omega), decide_eq_false (by omega)] <;> rfl
  by_cases hk : k = 1
  · have c1 : (its.toArray.isEmpty || k == 1) = true := by
      rw [hi, Bool.false_or]
      exact beq_iff_eq.mpr hk
    refine wpAny_binaryOp_repeat_ref (T := "tuple") (U := "int") (by decide) ⟨_, ho, rfl⟩ (fun s' => typeIs_int s' k t) noFill_tuple_mul F.fills_int_mul F.slot_int_rmul repeat_tuple F.slot_int_index.lookup
      (call_meets F.slot_int_rmul (typeIs_int s k t) F.entry_int_rmul (F.args_int_rmul_2 _ _) (int_rmul_tuple k t l its.toArray n dd sl)
        ⟨ho, rfl, ⟨_, ho, rfl⟩, call_meets F.slot_tuple_mul ⟨_, ho, rfl⟩ F.entry_tuple_mul (F.args_tuple_mul_2 _ _) (tuple_mul1 l its.toArray n dd sl k t c0 c1) ⟨ho, ?_⟩⟩)
    exact ⟨.ref l, H, I, rfl, qa hk⟩
  · have c1 : (its.toArray.isEmpty || k == 1) = false := by
      rw [hi, Bool.false_or]
      exact beq_eq_false_iff_ne.mpr hk
    have c2 : (decide (k ≤ 0) || its.toArray.isEmpty) = true := by
      rw [decide_eq_true (show k ≤ 0 by omega)]; rfl
    refine wpAny_binaryOp_repeat_ref (T := "tuple") (U := "int") (by decide) ⟨_, ho, rfl⟩ (fun s' => typeIs_int s' k t) noFill_tuple_mul F.fills_int_mul F.slot_int_rmul repeat_tuple F.slot_int_index.lookup
      (call_meets F.slot_int_rmul (typeIs_int s k t) F.entry_int_rmul (F.args_int_rmul_2 _ _) (int_rmul_tuple k t l its.toArray n dd sl)
        ⟨ho, rfl, ⟨_, ho, rfl⟩, call_meets F.slot_tuple_mul ⟨_, ho, rfl⟩ F.entry_tuple_mul (F.args_tuple_mul_2 _ _) (tuple_mul0 l its.toArray n dd sl k t c0 c1 c2) ⟨ho, ?_⟩⟩)
    refine ⟨.ref s.heap.objs.size, _, I.laid (t' := s.toks) (o := .tup []) (fun b ob q => Heap.get?_push_of_some _ q) (Nat.le_refl _) ?_, rfl, qb (by omega) _ (I.hok.fresh (Nat.le_refl _))⟩
    exact ⟨by simp, [], .nil, IsTup.new _ _⟩
end
def mulTD : D → D → Mu → Res
  | .tup a, .int j, μ => if a = [] then .bad else if j = 1 then .ok (.val (.tup a)) μ else if -1000 ≤ j ∧ j ≤ 0 then .ok (.val (.tup [])) μ else if 2 ≤ j ∧ j ≤ 1000 ∧ a.length ≤ 1000 then .ok (.val (.tup (List.replicate j.toNat a).flatten)) μ else .bad
  | _, _, _ => .bad
section
variable {c : Cc} {W : WX} {X : Cx}
theorem b_mulT : Bin2 c W mulTD (fun x y H Q => rRepZ c.K x y H Q ∨ rRepT c.K x y H Q) := by
  intro ρ s μ σ H r1 r2 v1 v2 a b Q ok e1 e2 t1 t2 p
  unfold mulTD at p
  split at p
  · rename_i a j
    obtain ⟨a1, vs1, rfl, h1, n1, l1, q1⟩ := tup_of t1 e1
    have hv2 := int_of t2 e2
    split at p
    · exact p.elim
    · rename_i hne
      have hvn : vs1 ≠ [] := fun z => hne (by subst z; cases q1; rfl)
      split at p
      · rename_i hj
        exact .inl ⟨_, _, vs1, rfl, hv2, .of h1, hvn, by omega, by omega, fun _ => p.val ok (.tup (hid_some.mpr ⟨n1, h1⟩) l1 q1), fun z => by omega⟩
      · split at p
        · rename_i hj1 hj
          exact .inl ⟨_, _, vs1, rfl, hv2, .of h1, hvn, by omega, by omega, fun z => absurd z hj1, fun _ => p.newT ok .nil (by simp)⟩
        · split at p
          · rename_i hj
            refine .inr ⟨_, _, vs1, rfl, hv2, .of h1, hvn, hj.1, hj.2.1, by rw [q1.length]; exact hj.2.2, ?_⟩
            refine p.newT ok (q1.repl _) ?_
            rw [List.length_flatten, List.map_replicate, List.sum_replicate_nat, q1.length, sizeLine_eq]
            have : j.toNat * a.length ≤ 1000 * 1000 := Nat.mul_le_mul (by omega) hj.2.2
            omega
          · exact p.elim
  · exact p.elim
theorem de_mulT (hK : c.K = X.K) {a b : Expr} {fa fb : EF} {pos : Pos} (ha : PE X a (tD c W fa)) (hb : PE X b (tD c W fb)) : PE X (.BinOp a .Mult b pos) (tD c W (eBin mulTD fa fb)) :=
  de_bin (hK ▸ op_repZ.or op_repT) b_mulT ha hb
end
end Dl
namespace Dl
open PySem PySem.Spec PyProof.Rows L2
@[simp] theorem mulTD_0 {a : List D} {μ : Mu} (h : a ≠ []) : mulTD (.tup a) (.int 0) μ = .ok (.val (.tup [])) μ := by simp [mulTD, h]
@[simp] theorem mulTD_1 {a : List D} {μ : Mu} (h : a ≠ []) : mulTD (.tup a) (.int 1) μ = .ok (.val (.tup a)) μ := by simp [mulTD, h]
@[simp] theorem mulTD_k {a : List D} {k : Int} {μ : Mu} (h : a ≠ []) (h1 : 2 ≤ k) (h2 : k ≤ 1000) (h3 : a.length ≤ 1000) : mulTD (.tup a) (.int k) μ = .ok (.val (.tup (List.replicate k.toNat a).flatten)) μ := by
  simp [mulTD, h, h1, h2, h3, show ¬ k = 1 by omega, show ¬ k ≤ 0 by omega]
end Dl

namespace Dl
open PySem PySem.Spec PyProof.Rows L2
/-! ### how many unlike whole numbers a list has -/
def unlike (ns : List Int) : Nat := (PyProof.Rows.firstMet (fun i => ns.getD i 0) ns.length).length
def rUnl (K : PySem.W.Frag) (te : TE) : TE := fun σ H Q => te σ H fun v H1 => ∃ (b : Addr) (zs : List Int), v = V.ref b ∧ SqL K H1 b (zs.map V.int) ∧ zs.length ≤ 4000 ∧ Q (.int (unlike zs : Nat)) H1
theorem pe_unl {X : Cx} {e : Expr} {te : TE} {q1 q2 q3 pos : Pos} (hc : X.calm = true) (g1 : Gl X "len") (n1 : X.mg "len" = none) (g2 : Gl X "set") (n2 : X.mg "set" = none) (he : PE X e te)
    (na : starEach [e] X.env = (false, eval e X.env) :: starEach [] X.env := by rfl) : PE X (.Call (.Name "len" q1) [.Call (.Name "set" q2) [e] [] q3] [] pos) (rUnl X.K te) :=
  ⟨fun pins s σ H Q I h => by
    apply Call_ (ld_blt I g1 n1 boot_len _)
    apply PyProof.Rows.callWith_builtin1 (PyProof.Rows.args_cons _ rfl) rfl rfl
    apply Call_ (ld_blt I g2 n2 boot_set _)
    refine PyProof.Rows.callWith_type1 (PyProof.Rows.args_cons (thn (he.run pins s σ H _ I h) fun v t ⟨x, G, J, rx, b, zs, ex, hb, hl, q⟩ => PyProof.Rows.args_nil ?_) na) na rfl
    subst ex
    cases rx
    obtain ⟨us, ru, pu, _⟩ := J.list hb
    have ez : us.toArray.size = zs.length := by rw [List.size_toArray, ← ru.length, List.length_map]
    refine call_set_list (J.ok.hd hc) pu.isList (ns := zs) (by simpa using ru.ints) (by unfold scanBound; omega) fun h' tk hS hk => PyProof.Rows.args_nil ?_
    rw [ez] at hS
    obtain ⟨o, es, ep, tb, ho, hx, hd, _, _, _, hf, hn⟩ := hS
    have hle := PyProof.Rows.firstMet_length_le (fun i => zs.getD i 0) zs.length
    exact call_len_set ho hx hd hf (by rw [hn] <;> omega) ⟨.int (unlike zs : Nat), G, (J.kept fun b o e => hk b o (Heap.lt_size e) e).tok _, ⟨_, by rw [hn]; rfl⟩, q⟩⟩
def lenSetD : D → Mu → Res
  | .lst a, μ => match asInts a with
    | some zs => if zs.length ≤ 4000 then .ok (.val (.int (unlike zs))) μ else .bad
    | none => .bad
  | _, _ => .bad
def eLenSet (f : EF) : EF := fun s μ => (f s μ).bind fun x μ1 => one lenSetD x μ1
section
variable {c : Cc} {W : WX} {X : Cx}
theorem de_lenSet {e : Expr} {fe : EF} {q1 q2 q3 pos : Pos} (hK : c.K = X.K) (hc : X.calm = true) (g1 : Gl X "len") (n1 : X.mg "len" = none) (g2 : Gl X "set") (n2 : X.mg "set" = none) (he : PE X e (tD c W fe))
    (na : starEach [e] X.env = (false, eval e X.env) :: starEach [] X.env := by rfl) : PE X (.Call (.Name "len" q1) [.Call (.Name "set" q2) [e] [] q3] [] pos) (tD c W (eLenSet fe)) :=
  (pe_unl hc g1 n1 g2 n2 he na).imp fun σ H Q q => by
    refine tD_bind (g := fun _ x μ1 => one lenSetD x μ1) (k := fun σ x H1 Q => ∃ (b : Addr) (zs : List Int), x = V.ref b ∧ SqL X.K H1 b (zs.map V.int) ∧ zs.length ≤ 4000 ∧ Q (.int (unlike zs : Nat)) H1) (fun ρ s μ σ H r v Q rep p => ?_) σ H Q q
    obtain ⟨d, e1, p⟩ := one_post p
    unfold lenSetD at p
    split at p
    · split at p
      · rename_i zs q
        split at p
        · rename_i hl
          obtain ⟨b, vs, rfl, h1, l1, r1⟩ := lst_of rep.ok.g rep.tmp e1
          rw [ints_ok r1 q] at h1
          exact ⟨b, zs, rfl, hK ▸ .of h1, hl, p.val rep.ok (.int _)⟩
        · exact p.elim
      · exact p.elim
    · exact p.elim
end
@[simp] theorem sm_eLenSet {f : EF} {s : Sl} {μ : Mu} : eLenSet f s μ = (f s μ).bind (one lenSetD) := (rfl)
theorem lenSet_i {ds : List D} {zs : List Int} {μ : Mu} (h : asInts ds = some zs) (hl : zs.length ≤ 4000) : lenSetD (.lst ds) μ = .ok (.val (.int (unlike zs))) μ := by
  show (match asInts ds with | some zs => if zs.length ≤ 4000 then Res.ok (.val (.int (unlike zs))) μ else .bad | none => .bad) = _
  rw [h]
  exact if_pos hl
/-! ### a, b = x, y with a to be changed later -/
def parM2 (i j : Nat) (s : Sl) (n : Nat) : R → Mu → SRes := fun y μ2 => .nx ((s.set i (some (.obj n))).set j (some (norm y))) μ2
@[simp] theorem parM2_ap {i j n : Nat} {s : Sl} {y : R} {μ2 : Mu} : parM2 i j s n y μ2 = .nx ((s.set i (some (.obj n))).set j (some (norm y))) μ2 := (rfl)
def parMK (i j : Nat) (fb : EF) (s : Sl) : R → Mu → SRes
  | .newL xs, μ1 => (fb s (μ1 ++ [.lst xs])).bindS s (parM2 i j s μ1.length)
  | _, _ => .bad
def sParM (i j : Nat) (fa fb : EF) : SF := fun s μ => (fa s μ).bindS s (parMK i j fb s)
section
variable {c : Cc} {W : WX} {X : Cx} {fa fb : EF}
theorem ds_parM {i j : Nat} {x y : Str} {a b : Expr} {px py pt : Pos} {kt k2 pt2} {pos : Pos} (hc : X.calm = true) (hN : X.N.Nodup) (hi : X.N[i]? = some x) (hj : X.N[j]? = some y) (hij : i ≠ j)
    (hx : X.env.scope.names.lookup x = some .local) (hy : X.env.scope.names.lookup y = some .local) (ha : PE X a (tD c W fa)) (hb : PE X b (tD c W fb))
    (hw : swappedStores [.Tuple [.Name x px, .Name y py] kt pt] (.Tuple [a, b] k2 pt2) X.env = pure (some [x, y]) := by rfl)
    (hs : swapsWithSole [.Tuple [.Name x px, .Name y py] kt pt] (.Tuple [a, b] k2 pt2) pos.line X.env = pure false := by rfl)
    (s1 : starEach [a, b] X.env = (false, eval a X.env) :: starEach [b] X.env := by rfl) (s2 : starEach [b] X.env = (false, eval b X.env) :: starEach [] X.env := by rfl) :
    PS X (.Assign [.Tuple [.Name x px, .Name y py] kt pt] (.Tuple [a, b] k2 pt2) pos) (tS c W (sParM i j fa fb)) :=
  (ps_par hc hN hi hj hij hx hy (pa_cons ha (pa_cons hb pa_nil s2) s1) hw hs).imp fun D σ H q => by
    refine tD_bindS0 (g := fun s => parMK i j fb s) (k := fun x σ H1 => tCons (tD c W fb) tNil σ H1 fun xs H2 => ∃ v w, x :: xs = [v, w] ∧ D.nx ((σ.set i (some v)).set j (some w)) H2) (fun ρ0 H0 ρ s μ σ H r1 v1 st rep p => ?_) σ H q
    unfold parMK at p
    split at p
    · rename_i xs
      obtain ⟨a, rfl, k, st3, hg⟩ := joins st rep (m := .lst xs) (.inl ⟨rfl, _, rfl⟩)
      refine ⟨ρ ++ [a], s, μ ++ [.lst xs], k, ?_⟩
      cases e1 : fb s (μ ++ [.lst xs]) with
      | exc C μ1 => rw [e1] at p; exact fun H' ρ' st' ok' => p σ H' ρ' (st3.trans st') ok'
      | bad => rw [e1] at p; exact p
      | ok r2 μ2 =>
        rw [e1] at p
        intro v2 H2 ρ2 st2 rep2
        refine ⟨.ref a, v2, rfl, ?_⟩
        have t1 : Tmp c.K (ρ ++ [a]) (hid H (ρ ++ [a])) (.obj μ.length) (.ref a) := ⟨a, hg, rfl⟩
        exact p _ H2 ρ2 (st3.trans st2.weak) ((rep2.ok.store (t1.keep st2.ext st2.weak.keep) i).store (by simpa using rep2.tmp.norm) j)
    · exact p.elim
theorem ds_parMT {i j : Nat} {x y : Str} {a b : Expr} {px py pt : Pos} {kt k2 pt2} {pos : Pos} (hc : X.calm = true) (hN : X.N.Nodup) (hi : X.N[i]? = some x) (hj : X.N[j]? = some y)
    (hx : Loc X.env.scope x) (hy : Loc X.env.scope y) (ha : PE X a (tD c W fa)) (hb : PE X b (tD c W fb))
    (hw : swappedStores [.Tuple [.Name x px, .Name y py] kt pt] (.Tuple [a, b] k2 pt2) X.env = pure none := by rfl)
    (hs : swapsWithSole [.Tuple [.Name x px, .Name y py] kt pt] (.Tuple [a, b] k2 pt2) pos.line X.env = pure false := by rfl)
    (h1 : (assignEach [.Tuple [.Name x px, .Name y py] kt pt] X.env).map (·.2) = [assign (.Tuple [.Name x px, .Name y py] kt pt) X.env] := by rfl)
    (h2 : (assignEach [.Name x px, .Name y py] X.env).map (·.2) = assign (.Name x px) X.env :: (assignEach [.Name y py] X.env).map (·.2) := by rfl)
    (h3 : (assignEach [.Name y py] X.env).map (·.2) = assign (.Name y py) X.env :: (assignEach [] X.env).map (·.2) := by rfl)
    (h4 : (assignEach [.Name x px, .Name y py] X.env).length = 2 := by rfl) (h5 : (assignEach [.Name x px, .Name y py] X.env).findIdx? (·.1) = none := by rfl)
    (hf1 : X.fn x = true ∨ X.env.scope.names.lookup x = some .local := by first | exact .inl rfl | exact .inr rfl | assumption) (hf2 : X.fn y = true ∨ X.env.scope.names.lookup y = some .local := by first | exact .inl rfl | exact .inr rfl | assumption)
    (s1 : starEach [a, b] X.env = (false, eval a X.env) :: starEach [b] X.env := by rfl) (s2 : starEach [b] X.env = (false, eval b X.env) :: starEach [] X.env := by rfl) :
    PS X (.Assign [.Tuple [.Name x px, .Name y py] kt pt] (.Tuple [a, b] k2 pt2) pos) (tS c W (sParM i j fa fb)) :=
  (ps_asg (pe_tup (pa_cons ha (pa_cons hb pa_nil s2) s1)) (pg_tup hc (pgs_cons (pg_name hN hi hx hf1) (pgs_cons (pg_name hN hj hy hf2) pgs_nil h3) h2) h4 h5) hs hw h1).imp fun D σ H q => by
    refine tD_bindS0 (g := fun s => parMK i j fb s) (k := fun x σ H1 => tCons (tD c W fb) tNil σ H1 fun xs H2 => (x :: xs).length ≤ sizeLine ∧ ∀ p, H2 p = none → gTup X.K 2 (gCons (gName i) (gCons (gName j) gNil)) (.ref p) σ (upd H2 p (.tup (x :: xs))) D.nx) (fun ρ0 H0 ρ s μ σ H r1 v1 st rep p => ?_) σ H q
    unfold parMK at p
    split at p
    · rename_i xs
      obtain ⟨a, rfl, k, st3, hg⟩ := joins st rep (m := .lst xs) (.inl ⟨rfl, _, rfl⟩)
      refine ⟨ρ ++ [a], s, μ ++ [.lst xs], k, ?_⟩
      cases e1 : fb s (μ ++ [.lst xs]) with
      | exc C μ1 => rw [e1] at p; exact fun H' ρ' st' ok' => p σ H' ρ' (st3.trans st') ok'
      | bad => rw [e1] at p; exact p
      | ok r2 μ2 =>
        rw [e1] at p
        intro v2 H2 ρ2 st2 rep2
        refine ⟨by show 2 ≤ sizeLine; exact le1000 (by decide), fun q hq => ⟨q, _, rfl, .of upd_same, rfl, _, _, rfl, v2, _, rfl, rfl, ?_⟩⟩
        have t1 : Tmp c.K (ρ ++ [a]) (hid H (ρ ++ [a])) (.obj μ.length) (.ref a) := ⟨a, hg, rfl⟩
        have st4 := st2.weak.trans (.alloc (o := .tup [.ref a, v2]) hq)
        have t1 := t1.keep st4.ext st4.keep
        have t2 := rep2.tmp.keep Ext.refl (StepX.alloc (ρ := ρ2) (o := .tup [.ref a, v2]) hq).keep
        have ok3 := (rep2.ok.alloc (o := .tup [.ref a, v2]) hq).xnil
        exact p _ _ ρ2 (st3.trans st4) ((ok3.store t1 i).store (by simpa using t2.norm) j)
    · exact p.elim
end
@[simp] theorem sm_sParM {i j : Nat} {fa fb : EF} {s : Sl} {μ : Mu} : sParM i j fa fb s μ = (fa s μ).bindS s (parMK i j fb s) := (rfl)
@[simp] theorem parMK_L {i j : Nat} {fb : EF} {s : Sl} {xs : List D} {μ : Mu} : parMK i j fb s (.newL xs) μ = (fb s (μ ++ [.lst xs])).bindS s (parM2 i j s μ.length) := (rfl)
end Dl

namespace Dl
open PySem PySem.Spec PyProof.Rows L2
/-! ### for over an own list that no turn changes -/
open Classical in
noncomputable def forO (tg : TgF) (body : SF) (j : Nat) (all : List D) : List D → Sl → Mu → SRes
  | [], s, μ => if μ[j]? = some (.lst all) then .nx s μ else .bad
  | d :: ds, s, μ => if μ[j]? = some (.lst all) then (match tg d s with
    | none => .bad
    | some s1 => match body s1 μ with
      | .nx s2 μ2 => forO tg body j all ds s2 μ2
      | .ct s2 μ2 => forO tg body j all ds s2 μ2
      | .bk s2 μ2 => .nx s2 μ2
      | .rt r μ2 => .rt r μ2
      | .exc C s2 μ2 => .exc C s2 μ2
      | .bad => .bad) else .bad
noncomputable def forOK (tg : TgF) (body : SF) (s : Sl) (μ : Mu) : Option (Option R) → SRes
  | some (some (.obj j)) => match μ[j]? with
    | some (.lst ds) => forO tg body j ds ds s μ
    | _ => .bad
  | _ => .bad
noncomputable def sForO (i : Nat) (tg : TgF) (body : SF) : SF := fun s μ => forOK tg body s μ s[i]?
section
variable {c : Cc} {W : WX} {X : Cx} {tg : Expr} {body : List Stmt} {g : TG} {is : List Nat} {tgf : TgF} {fb : SF} {pos : Pos}
theorem ds_forO {i : Nat} {x : Str} {px : Pos} (hK : c.K = X.K) (hp : PassesOwn (model X.prog X.w) X.A X.env X.xe) (hc : X.calm = true) (he : PE X (.Name x px) (tD c W (eVarN i))) (hg : PG X tg g) (ok : GOk c g is tgf) (hb : PSs X body (tS c W fb))
    (hs : ∀ z, foldedSetIterable (.Name x px) X.env z = pure z := by intro _; rfl) : PS X (.For tg (.Name x px) body [] pos) (tS c W (sForO i tgf fb)) := (ps_for hp hc (pi_list he) hg hb hs).imp fun D σ H q => by
  obtain ⟨ρ, s, μ, k, p⟩ := q
  refine ⟨ρ, s, μ, k, ?_⟩
  dsimp only [sForO] at p
  unfold forOK at p
  split at p
  · rename_i j hs1
    split at p
    · rename_i ds hμ
      have ev : eVarN i s μ = .ok (.obj j) μ := by unfold eVarN; rw [hs1]; rfl
      rw [ev]
      intro v H1 ρ1 st1 rep1
      obtain ⟨a, vs, rfl, h1, l1, r1⟩ := lst_of rep1.ok.g rep1.tmp (deref_o hμ)
      have hρ : ρ1[j]? = some a := by
        obtain ⟨b, hb1, hb2⟩ := rep1.tmp
        cases hb2; exact hb1
      refine ⟨a, rfl, ⟨vs, .of h1⟩, ?_⟩
      refine ⟨fun i m σ H => i + m = ds.length ∧ ∃ ρ s μ, Ok c ρ [] s μ σ H ∧ ρ[j]? = some a ∧ PostS c W ρ H D (forO tgf fb j ds (ds.drop i) s μ), ⟨ds.length, by omega, ρ1, s, μ, rep1.ok, hρ, by rw [List.drop_zero]; exact PostS.from st1.weak p⟩, ?_⟩
      rintro i m σ2 H2 ⟨him, ρ2, s2, μ2, ok2, g2, p2⟩
      have chk : μ2[j]? = some (.lst ds) := by
        cases e : ds.drop i with
        | nil =>
          rw [e] at p2; unfold forO at p2
          split at p2
          · assumption
          · exact p2.elim
        | cons d r =>
          rw [e] at p2; unfold forO at p2
          split at p2
          · assumption
          · exact p2.elim
      obtain ⟨a', vs2, ea, h2, l2, r2⟩ := lst_of (r := .obj j) (v := .ref a) ok2.g ⟨a, g2, rfl⟩ (deref_o chk)
      cases ea
      by_cases hm : m = 0
      · have hi : i = ds.length := by omega
        left
        subst hi
        rw [List.drop_length] at p2
        unfold forO at p2
        rw [if_pos chk] at p2
        exact ⟨⟨vs2, hK ▸ .of h2, by rw [r2.length]; exact Nat.le_refl _⟩, p2 σ2 H2 ρ2 .refl ok2⟩
      · have hi : i < ds.length := by omega
        right
        obtain ⟨v, k1, k2⟩ := r2.get (List.getElem?_eq_getElem hi)
        refine ⟨⟨vs2, v, hK ▸ .of h2, k1⟩, fun σ H => ∃ ρ s μ, Ok c ρ [] s μ σ H ∧ ρ[j]? = some a ∧ PostS c W ρ H D (forO tgf fb j ds (ds.drop (i + 1)) s μ), fun σ' H' ⟨ρ', s', μ', h1, h2, h3⟩ => ⟨m - 1, by omega, by omega, ρ', s', μ', h1, h2, h3⟩, fun x H3 hy => ?_⟩
        obtain ⟨e3, hx⟩ := hy
        subst e3
        have hv := hx vs2 (hK ▸ .of h2)
        rw [k1] at hv
        cases hv
        rw [List.drop_eq_getElem_cons hi] at p2
        unfold forO at p2
        rw [if_pos chk] at p2
        cases e1 : tgf ds[i] s2 with
        | none => rw [e1] at p2; exact p2.elim
        | some s3 =>
          rw [e1] at p2
          refine ok.ok ρ2 [] s2 s3 μ2 σ2 H3 ds[i] _ _ ok2 (by simpa using k2) e1 fun σ4 ok4 _ => ⟨ρ2, s3, μ2, ok4, ?_⟩
          dsimp only at p2
          cases e2 : fb s3 μ2 with
          | nx s5 μ5 => rw [e2] at p2; exact fun σ' H' ρ' st ok' => ⟨ρ', s5, μ5, ok', st.ext.get g2, PostS.from st p2⟩
          | ct s5 μ5 => rw [e2] at p2; exact fun σ' H' ρ' st ok' => ⟨ρ', s5, μ5, ok', st.ext.get g2, PostS.from st p2⟩
          | bk s5 μ5 => rw [e2] at p2; exact p2
          | rt r μ5 => rw [e2] at p2; exact p2
          | exc C s5 μ5 => rw [e2] at p2; exact p2
          | bad => rw [e2] at p2; exact p2
    · exact p.elim
  · exact p.elim
end
/-! ### a list comprehension over an own list that no turn changes -/
open Classical in
noncomputable def compLO (tg : TgF) (t : TF) (f : EF) (s : Sl) (k j : Nat) (all : List D) : List D → Mu → Res
  | [], μ => if μ[j]? = some (.lst all) then (match μ[k]? with
    | some (.lst acc) => .ok (.newL acc) (μ.take k)
    | _ => .bad) else .bad
  | d :: ds, μ => if μ[j]? = some (.lst all) then (match tg d s with
    | none => .bad
    | some s1 => match t s1 μ with
      | .ok b μ1 => if b = true then match f s1 μ1 with
        | .ok r μ2 => match dataOf r, μ2[k]? with
          | some d', some (.lst acc) => if acc.length < sizeLine then compLO tg t f s k j all ds (μ2.set k (.lst (acc ++ [d']))) else .bad
          | _, _ => .bad
        | _ => .bad
        else compLO tg t f s k j all ds μ1
      | _ => .bad) else .bad
noncomputable def compOK (tg : TgF) (t : TF) (f : EF) (vs : List Nat) (s : Sl) (μ : Mu) : Option (Option R) → Res
  | some (some (.obj j)) => match μ[j]? with
    | some (.lst ds) => compLO tg t f (wipeS s vs) μ.length j ds ds (μ ++ [.lst []])
    | _ => .bad
  | _ => .bad
noncomputable def eCompO (i : Nat) (tg : TgF) (t : TF) (f : EF) (vs : List Nat) : EF := fun s μ => compOK tg t f vs s μ s[i]?
section
variable {c : Cc} {W : WX} {X : Cx}
theorem comp_impO {own : List (Str × Nat)} {i0 : Nat} {g : TG} {is : List Nat} {tgf : TgF} {tf : TF} {f : EF} (gk : GOk c g is tgf) (hsub : ∀ i, i ∈ is → i ∈ own.map (·.2)) (σ : St) (H : Hp) (Q : VK) (q : tD c W (eCompO i0 tgf tf f (own.map (·.2))) σ H Q) :
    tLc (iList c.K (tD c W (eVarN i0))) g (tT c Wn tf) (tD c Wn f) (own.map (·.2)) σ H Q := by
  obtain ⟨ρ, s, μ, k, p⟩ := q
  refine ⟨ρ, s, μ, k, ?_⟩
  dsimp only [eCompO] at p
  unfold compOK at p
  split at p
  · rename_i j hs1
    split at p
    · rename_i ds hμ
      have ev : eVarN i0 s μ = .ok (.obj j) μ := by unfold eVarN; rw [hs1]; rfl
      rw [ev]
      intro v H1 ρ1 st1 rep1
      obtain ⟨a0, vs0, rfl, h1, l1, r1⟩ := lst_of rep1.ok.g rep1.tmp (deref_o hμ)
      have hρ : ρ1[j]? = some a0 := by
        obtain ⟨b, hb1, hb2⟩ := rep1.tmp
        cases hb2; exact hb1
      refine ⟨a0, rfl, ⟨vs0, .of h1⟩, ?_⟩
      have ok1 := rep1.ok
      have p := Post.from st1.weak p
      intro a ha
      obtain ⟨n1, hn1⟩ : ∃ n1, n1 = μ.length := ⟨_, rfl⟩
      rw [← hn1] at p
      generalize hvs : own.map (·.2) = vs at p hsub ⊢
      have hl1 : n1 = ρ1.length := by rw [hn1]; exact ok1.g.len.symm
      have fr := ok1.fresh ha
      have okA := ok1.alloc (o := .lst []) ha
      have ok2 := okA.join fr.1 (by rw [upd_same]; simp) fr.2 (m := .lst []) ⟨[], upd_same, Nat.zero_le _, .nil⟩
      have st2 : StepX ρ1 H1 [] (ρ1 ++ [a]) (upd H1 a (.lst [])) := StepX.join (StepX.allocX ha)
      have ok3 : Ok c (ρ1 ++ [a]) [] (wipeS s vs) (μ ++ [.lst []]) (L2.wipe σ vs) (upd H1 a (.lst [])) := ⟨ok2.g, ok2.sl.wipe vs, ok2.dom, ok2.new, ok2.le⟩
      have ak : (ρ1 ++ [a])[n1]? = some a := by rw [hl1, List.getElem?_append_right (Nat.le_refl _)]; simp
      refine ⟨fun i m H => i + m = ds.length ∧ ∃ ρ μ, Ok c ρ [] (wipeS s vs) μ (L2.wipe σ vs) H ∧ StepX ρ1 H1 [] ρ H ∧ Ext (ρ1 ++ [a]) ρ ∧ ρ[j]? = some a0 ∧ Post c W ρ1 H1 s σ Q (compLO tgf tf f (wipeS s vs) n1 j ds (ds.drop i) μ),
        ⟨ds.length, by omega, _, _, ok3, st2, .refl, st2.ext.get hρ, by rw [List.drop_zero]; exact p⟩, ?_⟩
      rintro i m H5 ⟨him, ρ5, μ5, ok5, st5, ex5, g5, p5⟩
      have ak5 := ex5.get ak
      have chk : μ5[j]? = some (.lst ds) := by
        cases e : ds.drop i with
        | nil =>
          rw [e] at p5; unfold compLO at p5
          split at p5
          · assumption
          · exact p5.elim
        | cons d r =>
          rw [e] at p5; unfold compLO at p5
          split at p5
          · assumption
          · exact p5.elim
      obtain ⟨a9, vs9, ea, h9, l9, r9⟩ := lst_of (r := .obj j) (v := .ref a0) ok5.g ⟨a0, g5, rfl⟩ (deref_o chk)
      cases ea
      by_cases hm : m = 0
      · have hi : i = ds.length := by omega
        left
        subst hi
        rw [List.drop_length] at p5
        refine ⟨⟨vs9, .of h9, by rw [r9.length]; exact Nat.le_refl _⟩, ?_⟩
        unfold compLO at p5
        rw [if_pos chk] at p5
        obtain ⟨mo, h2, h3⟩ := mu_of ok5.g ak5
        rw [h2] at p5
        cases mo with
        | dct _ => exact p5.elim
        | ins _ _ => exact p5.elim
        | gone => exact p5.elim
        | lst acc =>
          obtain ⟨t5, rfl⟩ := ex5
          obtain ⟨vs5, q1, q2, q3⟩ := h3
          have e5 : ρ1 ++ [a] ++ t5 = ρ1 ++ ([a] ++ t5) := List.append_assoc _ _ _
          have g5' := ok5.g
          rw [e5] at g5' q3 st5
          have kp1 : KeepX (hid H1 ρ1) (hid H5 ([a] ++ ρ1)) := st5.keepX.trans (.sub fun b hb => by
            simp at hb ⊢
            rcases hb with rfl | hb <;> simp [*])
          refine p5 (.ref a) H5 ρ1 ⟨.refl, kp1, st5.grow⟩ ⟨a, vs5, rfl, q1, fr.1, fr.2, q2, q3.keep (.sub fun b hb => ?_), ⟨?_, ?_, fun b hb => st5.grow b (ok1.dom b hb), ok1.new, ok1.le⟩⟩
          · simp at hb ⊢
            rcases hb with rfl | hb <;> simp [*]
          · rw [hl1]
            exact g5'.cut (fun b hb => .inr (by simp at hb; subst hb; simp))
          · exact ok1.sl.keep .refl (by simpa using kp1.keep)
      · have hi : i < ds.length := by omega
        right
        obtain ⟨v9, k1, k2⟩ := r9.get (List.getElem?_eq_getElem hi)
        refine ⟨⟨vs9, v9, .of h9, k1⟩, fun H => ∃ ρ μ, Ok c ρ [] (wipeS s vs) μ (L2.wipe σ vs) H ∧ StepX ρ1 H1 [] ρ H ∧ Ext (ρ1 ++ [a]) ρ ∧ ρ[j]? = some a0 ∧ Post c W ρ1 H1 s σ Q (compLO tgf tf f (wipeS s vs) n1 j ds (ds.drop (i + 1)) μ), fun H' h => ⟨m - 1, by omega, by omega, h⟩, fun x H6 hy => ?_⟩
        obtain ⟨e3, hx⟩ := hy
        subst e3
        have hv := hx vs9 (.of h9)
        rw [k1] at hv
        cases hv
        have st6 : StepX ρ5 H6 [] ρ5 H6 := .refl
        have ok6 := ok5
        have r6 := k2
        rw [List.drop_eq_getElem_cons hi] at p5
        unfold compLO at p5
        rw [if_pos chk] at p5
        cases e1 : tgf ds[i] (wipeS s vs) with
        | none => rw [e1] at p5; exact p5.elim
        | some s7 =>
          rw [e1] at p5
          dsimp only at p5
          refine gk.ok ρ5 [] _ s7 μ5 (L2.wipe σ vs) H6 ds[i] _ _ ok6 (by simpa using r6) e1 fun σ7 ok7 w7 => ⟨?_, ρ5, s7, μ5, ok7, ?_⟩
          · rw [w7 vs hsub, wipe_idem σ vs vs fun _ h => h]
          cases e2 : tf s7 μ5 with
          | exc C μ7 => rw [e2] at p5; exact p5.elim
          | bad => rw [e2] at p5; exact p5.elim
          | ok b μ7 =>
            rw [e2] at p5
            intro H7 ρ7 st7 ok7'
            dsimp only at p5
            cases b with
            | false => exact ⟨ρ7, μ7, ok6.back st7 ok7', (st5.trans st6).trans st7, ex5.trans st7.ext, st7.ext.get g5, p5⟩
            | true =>
              rw [if_pos rfl] at p5 ⊢
              refine ⟨ρ7, s7, μ7, ok7', ?_⟩
              cases e3 : f s7 μ7 with
              | exc C μ8 => rw [e3] at p5; exact p5.elim
              | bad => rw [e3] at p5; exact p5.elim
              | ok r8 μ8 =>
                rw [e3] at p5
                intro v8 H8 ρ8 st8 rep8
                have ex8 : Ext (ρ1 ++ [a]) ρ8 := (ex5.trans st7.ext).trans st8.ext
                have ak8 := ex8.get ak
                dsimp only at p5
                cases e4 : dataOf r8 with
                | none => rw [e4] at p5; exact p5.elim
                | some d8 =>
                  obtain ⟨mo, h2, h3⟩ := mu_of rep8.ok.g ak8
                  rw [e4, h2] at p5
                  cases mo with
                  | dct _ => exact p5.elim
                  | ins _ _ => exact p5.elim
                  | gone => exact p5.elim
                  | lst acc =>
                    dsimp only at p5
                    split at p5
                    · rename_i hlt
                      obtain ⟨vs8, q1, q2, q3⟩ := h3
                      have q3 : Reps c.K (hid H8 ρ8) acc vs8 := by simpa using q3
                      have l8 := q3.length
                      have okb := (ok6.back (st7.trans st8.weak) rep8.ok)
                      obtain ⟨okc, stc⟩ := okb.putL ak8 h2 (q3.snoc (dataOf_tmp rep8.tmp e4)) (by rw [List.length_append, List.length_singleton, l8]; exact hlt)
                      have s9 := (st7.trans st8.weak).trans stc
                      exact ⟨vs8, q1, by rw [l8]; exact hlt, ρ8, _, okc, (st5.trans st6).trans s9, ex8, s9.ext.get g5, p5⟩
                    · exact p5.elim
    · exact p.elim
  · exact p.elim
theorem de_compO {elt tg : Expr} {i0 : Nat} {x0 : Str} {p0 : Pos} {ifs : List Expr} {scope : Scope} {own : List (Str × Nat)} {pos : Pos} {g : TG} {is : List Nat} {tgf : TgF} {t : TF} {f : EF} (hK : c.K = X.K) (hc : X.calm = true) (hN : X.N.Nodup) (hi : PE X (.Name x0 p0) (tD c W (eVarN i0))) (ok : BlkOk X.N X.env.scope scope own)
    (gk : GOk c g is tgf) (hsub : ∀ i, i ∈ is → i ∈ own.map (·.2))
    (hg : ∀ (s : Shared) (H : Hp) (C : Addr) (cl : List (Str × Addr)) (fp : List Addr), PG (X.blk s H scope (compEnvC scope cl C X.env) fp) tg g) (ht : ∀ (s : Shared) (H : Hp) (C : Addr) (cl : List (Str × Addr)) (fp : List Addr), PTs (X.blk s H scope (compEnvC scope cl C X.env) fp) ifs (tT c Wn t))
    (he : ∀ (s : Shared) (H : Hp) (C : Addr) (cl : List (Str × Addr)) (fp : List Addr), PE (X.blk s H scope (compEnvC scope cl C X.env) fp) elt (tD c Wn f)) (hs : ∀ x, foldedSetIterable (.Name x0 p0) X.env x = pure x := by intro _; rfl) :
    PE X (.ListComp elt [⟨tg, .Name x0 p0, ifs, 0⟩] scope pos) (tD c W (eCompO i0 tgf t f (own.map (·.2)))) := (pe_lc hc hN (pi_list hi) ok hg ht he hs).imp (hK ▸ comp_impO gk hsub)
end
end Dl
namespace Dl
open PySem PySem.Spec PyProof.Rows L2
/-! ### how to reckon with them -/
@[simp] theorem sm_sForO {i : Nat} {tg : TgF} {b : SF} {s : Sl} {μ : Mu} : sForO i tg b s μ = forOK tg b s μ s[i]? := (rfl)
theorem forOK_o {tg : TgF} {b : SF} {s : Sl} {μ : Mu} {j : Nat} {ds : List D} (h : μ[j]? = some (.lst ds)) : forOK tg b s μ (some (some (.obj j))) = forO tg b j ds ds s μ := by
  unfold forOK; simp only [h]
@[simp] theorem sm_eCompO {i : Nat} {tg : TgF} {t : TF} {f : EF} {vs : List Nat} {s : Sl} {μ : Mu} : eCompO i tg t f vs s μ = compOK tg t f vs s μ s[i]? := (rfl)
theorem compLO_pure {tg : TgF} {t : TF} {f : EF} {s : Sl} {μ : Mu} {j : Nat} {all : List D} (p : D → Bool) (g : D → D) (hj : μ[j]? = some (.lst all)) : ∀ (ds : List D),
    (∀ d ∈ ds, ∃ s1, tg d s = some s1 ∧ ∀ acc, t s1 (μ ++ [.lst acc]) = .ok (p d) (μ ++ [.lst acc]) ∧ (p d = true → ∃ r, f s1 (μ ++ [.lst acc]) = .ok r (μ ++ [.lst acc]) ∧ dataOf r = some (g d))) →
    ∀ acc, compLO tg t f s μ.length j all ds (μ ++ [.lst acc]) = compL tg t f s μ.length ds (μ ++ [.lst acc])
  | [], _, acc => by
    have g0 : (μ ++ [MO.lst acc])[μ.length]? = some (.lst acc) := by simp
    unfold compLO compL
    rw [if_pos (get_app hj), g0]
  | d :: ds, h, acc => by
    obtain ⟨s1, e1, h1⟩ := h d (by simp)
    obtain ⟨e2, h2⟩ := h1 acc
    have ih := compLO_pure p g hj ds (fun x hx => h x (by simp [hx]))
    unfold compLO compL
    rw [if_pos (get_app hj), e1]
    dsimp only
    rw [e2]
    dsimp only
    cases hp : p d with
    | false => simp only [Bool.false_eq_true, if_false]; exact ih acc
    | true =>
      obtain ⟨r, e3, e4⟩ := h2 hp
      rw [if_pos rfl, if_pos rfl, e3]
      dsimp only
      rw [e4]
      have g0 : (μ ++ [MO.lst acc])[μ.length]? = some (.lst acc) := by simp
      rw [g0]
      dsimp only
      have es : (μ ++ [MO.lst acc]).set μ.length (.lst (acc ++ [g d])) = μ ++ [.lst (acc ++ [g d])] := by simp
      rw [es, ih]
theorem compO_pure {tg : TgF} {t : TF} {f : EF} {s : Sl} {μ : Mu} {j : Nat} {ds : List D} {vs : List Nat} (p : D → Bool) (g : D → D) (hj : μ[j]? = some (.lst ds))
    (h : ∀ d ∈ ds, ∃ s1, tg d (wipeS s vs) = some s1 ∧ ∀ acc, t s1 (μ ++ [.lst acc]) = .ok (p d) (μ ++ [.lst acc]) ∧ (p d = true → ∃ r, f s1 (μ ++ [.lst acc]) = .ok r (μ ++ [.lst acc]) ∧ dataOf r = some (g d))) (hl : ds.length ≤ sizeLine) :
    compOK tg t f vs s μ (some (some (.obj j))) = .ok (.newL ((ds.filter p).map g)) μ := by
  unfold compOK
  simp only [hj]
  rw [compLO_pure p g hj ds h, comp_pure p g h hl rfl]
theorem forO_ind {tg : TgF} {body : SF} {j : Nat} {all : List D} (I : Nat → Sl → Mu → Prop) (Out : SRes → Prop) (hj : ∀ k s μ, I k s μ → μ[j]? = some (.lst all)) : ∀ (ds : List D) (k : Nat),
    (∀ i d s μ, ds[i]? = some d → I (k + i) s μ → ∃ s1, tg d s = some s1 ∧ Turn (I (k + i + 1)) Out (body s1 μ)) → (∀ s μ, I (k + ds.length) s μ → Out (.nx s μ)) → ∀ s μ, I k s μ → Out (forO tg body j all ds s μ)
  | [], k, _, he, s, μ, h0 => by
    unfold forO
    rw [if_pos (hj _ _ _ h0)]
    exact he s μ h0
  | d :: ds, k, hs, he, s, μ, h0 => by
    unfold forO
    rw [if_pos (hj _ _ _ h0)]
    obtain ⟨s1, e1, h⟩ := hs 0 d s μ rfl h0
    rw [e1]
    dsimp only
    have next : ∀ s2 μ2, I (k + 0 + 1) s2 μ2 → Out (forO tg body j all ds s2 μ2) := fun s2 μ2 h2 =>
      forO_ind I Out hj ds (k + 1) (fun i d s μ hi hI => by
        have := hs (i + 1) d s μ (by simpa using hi) (by rw [show k + (i + 1) = k + 1 + i by omega]; exact hI)
        rw [show k + (i + 1) + 1 = k + 1 + i + 1 by omega] at this
        exact this) (fun s μ hI => he s μ (by rw [List.length_cons, show k + (ds.length + 1) = k + 1 + ds.length by omega]; exact hI)) s2 μ2 h2
    cases e : body s1 μ with
    | nx s2 μ2 => rw [e] at h; exact next s2 μ2 h
    | ct s2 μ2 => rw [e] at h; exact next s2 μ2 h
    | bk s2 μ2 => rw [e] at h; exact h
    | rt r μ2 => rw [e] at h; exact h
    | exc C s2 μ2 => rw [e] at h; exact h
    | bad => rw [e] at h; exact h.elim
end Dl

namespace Dl
open PySem PySem.Spec PyProof.Rows L2 HotX L2H LamX NdefX
/-! ### a wider base: all that is untracked, but the frames -/
/-- what no callee changes -/
def wideB (h : Heap) (H : Hp) (fs : List Addr) : Heap := PySem.W.hideAll (hidT h H) fs
section
variable {X : Cx} {pins : List (Addr × Obj)} {σ : L2.St} {H : Hp} {s : Shared}
theorem wide_of {h : Heap} {H : Hp} {fs : List Addr} {b : Addr} {o : Obj} (e : (wideB h H fs).get? b = some o) : h.get? b = some o ∧ H b = none := of_hidT (PySem.W.of_hideAll fs e)
theorem wide_get {h : Heap} {H : Hp} {fs : List Addr} {b : Addr} {o : Obj} (e : h.get? b = some o) (n : H b = none) (f : b ∉ fs) : (wideB h H fs).get? b = some o := PySem.W.hideAll_get fs (hidT_get e n) f
theorem wide_base (I : Inv X pins σ H s) {b : Addr} {o : Obj} (e : X.base.get? b = some o) : (wideB s.heap H (frs X.stack)).get? b = some o := by
  obtain ⟨h1, h2⟩ := I.bs b o e
  refine wide_get h1 h2 fun z => ?_
  obtain ⟨h3, _⟩ := I.stack.mem z
  rw [e] at h3
  cases h3
theorem funFrames_base {h base base' : Heap} : ∀ {l : List Env}, h.FunFrames base l → (∀ b ∈ frs l, base'.get? b = none) → h.FunFrames base' l
  | [], _, _ => trivial
  | env :: _, ⟨hk, ⟨L, o, hf, _, ho, hd⟩, hr⟩, hs => ⟨hk, ⟨L, o, hf, hs L (by unfold frs; rw [List.filterMap_cons, hf]; exact .head _), ho, hd⟩, funFrames_base hr fun b hb => hs b (by unfold frs; rw [List.filterMap_cons, hf]; exact .tail _ hb)⟩
theorem wide_env0 (I : Inv X pins σ H s) : Env0 X.prog X.w X.K X.mg (wideB s.heap H (frs X.stack)) X.A X.stack s H := by
  have e0 := I.env0
  have kp : ∀ b o, X.base.get? b = some o → (wideB s.heap H (frs X.stack)).get? b = some o := fun b o e => wide_base I e
  refine ⟨e0.frames, ⟨e0.mod.kin.keeps kp, e0.mod.glob.keeps kp, ?_, e0.mod.nolimit.keeps kp⟩, fun b o e => wide_of e, ?_, funFrames_base e0.funs fun b hb => PySem.W.hideAll_none _ hb, e0.frf, e0.hok, e0.bare⟩
  · obtain ⟨mb, h1, h2⟩ := e0.mod.blt
    exact ⟨mb, h1.keeps kp, h2⟩
  · show (PySem.W.hideAll (hidT s.heap H) (frs X.stack)).objs.size ≤ _
    rw [PySem.W.hideAll_size, hidT_size]
    exact Nat.le_refl _
end
/-! ### a lambda's promise -/
/-- cnt: from what it captured, what it does -/
def spC (K : PySem.W.Frag) (T : List (Addr × Str)) (κ : Clo) (n : Nat) (cnt : List D → FF) : Sp := fun vs H Q E => ∃ ρ rs μ ds, rs.length = n ∧ Rep K (hid H ρ) (.clo κ ds) (.ref κ.f) ∧ Tmps K ρ (hid H ρ) rs vs ∧ OkG K T ρ [] μ H ∧ PostF K T ρ H Q E (cnt ds rs μ)
structure CloOk (P : Program) (w : World) (K : PySem.W.Frag) (mg : Str → Option Value) (base : Heap) (T : List (Addr × Str)) (k : Nat) (κ : Clo) (n : Nat) (cnt : List D → FF) : Prop where
  fn : ∃ oc od fd sl ps, base.get? κ.f = some ⟨oc, od, .func fd, sl⟩ ∧ Binds K fd ps [] ∧ ps.length = n ∧ FnOk P w K mg base (L2N.CX P w) k κ.f fd ps (spC K T κ n cnt)
/-- a def's slots, parameters first, then what is captured -/
def sloC (N : Nat) (rs : List R) (ds : List D) : Sl := (rs.map fun r => some (norm r)) ++ (ds.map fun d => some (.val d)) ++ List.replicate (N - rs.length - ds.length) none
/-- a lambda by its body -/
def lamF (N : Nat) (f : EF) : List D → FF := fun ds rs μ => match f (sloC N rs ds) μ with
  | .ok r μ1 => finR μ.length r μ1
  | .exc C μ1 => .exc C (μ1.take μ.length)
  | .bad => .bad
/-- x(..), x a local that holds a lambda -/
def eFnC (κ : Clo) (n : Nat) (cnt : List D → FF) (i : Nat) (fs : AF) : EF := fun s μ => match s[i]? with
  | some (some (.val (.clo κ' ds))) => if κ' = κ then eFn n (cnt ds) fs s μ else .bad
  | _ => .bad
section
variable {c : Cc} {W : WX} {X : Cx} {x : Str} {k k' i n : Nat} {κ : Clo} {cnt : List D → FF} {pos p : Pos} {e : Expr} {es : List Expr} {fs : AF}
theorem fnC_imp (σ : St) (H : Hp) (Q : VK) (q : tD c W (eFnC κ n cnt i fs) σ H Q) : σ[i]? = some (some (.ref κ.f)) ∧ tCallS (spC c.K c.T κ n cnt) (WE W) (tA c W fs) σ H Q := by
  obtain ⟨ρ, s, μ, ok, p⟩ := q
  unfold eFnC at p
  split at p
  · rename_i κ' ds h
    split at p
    · rename_i e
      subst e
      obtain ⟨v, hs, t⟩ := ok.sl.get h
      cases (show Rep c.K _ (.clo κ' ds) v from t) with
      | clo h1 h2 =>
        refine ⟨hs, ρ, s, μ, ok, ?_⟩
        unfold eFn at p
        cases e : fs s μ with
        | exc C μ1 => rw [e] at p; exact p
        | bad => rw [e] at p; exact p
        | ok rs μ1 =>
          rw [e] at p
          intro vs H' ρ' st tm ok'
          dsimp only [Abind_ok] at p
          split at p
          · rename_i hl
            obtain ⟨v', hs', t'⟩ := ok'.sl.get h
            rw [hs] at hs'
            cases hs'
            exact ⟨ρ', rs, μ1, ds, hl, by have z : Rep c.K (hid H' ([] ++ ρ')) (.clo κ' ds) (.ref κ'.f) := t'; simpa using z, tm, ok'.g, post_call ok' (Post.from st p)⟩
          · exact p.elim
    · exact p.elim
  · exact p.elim
theorem de_callC (V : CloOk X.prog X.w X.K X.mg X.base c.T k κ n cnt) (hK : c.K = X.K) (hr : Room k' X.A) (hle : k ≤ k') (hN : X.N[i]? = some x) (hv : Vis X.env.scope x) (tk : L2N.Takes X W) (ha : PA X (e :: es) (tA c W fs))
    (hdb : (x == ("__debug__" : Str)) = false := by decide) (hcd : (x == ("__classdict__" : Str)) = false := by decide)
    (he : starEach (e :: es) X.env = (false, eval e X.env) :: starEach es X.env := by rfl) (hpl : (backTo pos (starEach es X.env)).any (·.1) = false := by rfl) : PE X (.Call (.Name x p) (e :: es) [] pos) (tD c W (eFnC κ n cnt i fs)) := by
  refine ⟨fun pins s σ H Q I q => ?_⟩
  obtain ⟨hs, q⟩ := fnC_imp σ H Q q
  obtain ⟨oc, od, fd, sl, ps, hf, hb, hn, F⟩ := V.fn
  refine wpAny_Call_Name_kw (thn ((pe_var (pos := p) hN hv hdb hcd).run pins s σ H (fun v H1 => v = .ref κ.f ∧ H1 = H) I ⟨.ref κ.f, hs, rfl, rfl⟩) fun u s1 ⟨v, H1, I1, r1, ev, eH⟩ => ?_)
  subst ev; subst eH
  cases r1
  refine PySem.W.callWith_F (first := []) ⟨_, _, _, _, I1.bk _ _ hf⟩ (thn (ha.run pos pins s1 σ H1 _ I1 q) fun us s2 ⟨vs, H2, I2, r, h2⟩ => ⟨⟨_, _, _, _, I2.bk _ _ hf⟩, ?_⟩) he hpl
  rw [hK] at h2
  exact run_fnS F (hr.mono hle) hb (L2N.passAt tk σ) I2 r h2
end
/-! ### its body keeps the promise -/
section
variable {P : Program} {w : World} {K : PySem.W.Frag} {mg : Str → Option Value} {base : Heap} {T : List (Addr × Str)} {N ps fr : List Str} {params : Arguments} {body : Expr} {scope : Scope} {cl : List (Str × Addr)} {pm ctv : Value} {κ : Clo} {k : Nat} {fb : EF}
abbrev nfL (κ : Clo) (params : Arguments) (scope : Scope) (cl : List (Str × Addr)) : NF := ⟨"<lambda>", κ.q, params, [], scope, cl, κ.c⟩
theorem startF_sl {ρ : List Addr} {Hh : Hp} {rs : List R} {vs : List V} {ds : List D} {us : List V} (tm : Tmps K ρ Hh rs vs) (r : Reps K Hh ds us) (n : Nat) : SlK K ρ Hh (sloC n rs ds) (vs.map some ++ (us.map some ++ List.replicate (n - vs.length - (us.map some).length) none)) := by
  unfold sloC
  rw [List.length_map, tm.length, r.length, List.append_assoc]
  have base : ∀ m : Nat, SlK K ρ Hh (List.replicate m none) (List.replicate m none) := fun m => by
    induction m with
    | zero => exact .nil
    | succ m ih => rw [List.replicate_succ, List.replicate_succ]; exact .non ih
  have second : ∀ {ds : List D} {us : List V} {a : Sl} {b : St}, Reps K Hh ds us → SlK K ρ Hh a b → SlK K ρ Hh ((ds.map fun d => some (.val d)) ++ a) (us.map some ++ b) := by
    intro ds us a b r h
    induction r using Reps.rec (motive_1 := fun _ _ _ => True) (motive_3 := fun _ _ _ => True) with
    | nil => exact h
    | cons t _ _ ih => exact .cons t ih
    | _ => trivial
  have first : ∀ {rs : List R} {vs : List V} {a : Sl} {b : St}, Tmps K ρ Hh rs vs → SlK K ρ Hh a b → SlK K ρ Hh ((rs.map fun r => some (norm r)) ++ a) (vs.map some ++ b) := by
    intro rs vs a b tm h
    induction tm with
    | nil => exact h
    | cons t _ ih => exact .cons t.norm ih
  exact first tm (second r (base _))
theorem lam_ok (S : NScope N ps fr scope) (hf : base.get? κ.f = some (PySem.W.kla_obj "<lambda>" κ.q params body scope cl pm κ.c ctv)) (hvs : κ.vs.length = fr.length)
    (hcell : ∀ y a, cl.lookup y = some a → ∃ o v, base.get? a = some o ∧ o.data = .cell v) (hinj : ∀ x y a, cl.lookup x = some a → cl.lookup y = some a → x = y)
    (hhas : ∀ (i : Nat) (y : Str), fr[i]? = some y → ∃ a, cl.lookup y = some a ∧ ∀ v, κ.vs[i]? = some v → ∃ u, L2.RelV v u ∧ base.IsCell a (some u))
    (hbind : ∀ us : List Value, us.length = ps.length → bindArgs (PySem.W.kla_fn "<lambda>" κ.q params body scope cl pm (.ref κ.c) ctv) ⟨us, []⟩ = pure (ps.zip us))
    (hbody : ∀ (A : Around) (outer : List Env) (s : Shared) (H : Hp) (E : XK) (B : Hp) (n : Nat), Room k (A.deeper (envF (nfL κ params scope cl) κ.f s.heap.objs.size)) →
      PE (ncx (L2N.CX P w) P w K mg base N (nfL κ params scope cl) κ.f A outer s H E) body (tD ⟨K, T, B, n⟩ (fun cls d _ H => E cls d H) fb)) :
    CloOk P w K mg base T (k + 1) κ ps.length (lamF N.length fb) := by
  refine ⟨_, _, _, _, ps, hf, Binds.all hbind, rfl, fun vs H Q E ⟨ρ, rs, μ, ds, hn, _, tm, _⟩ => by rw [tm.length, hn], fun A outer s H args us vs Q E hr e0 hb r hsp => ?_⟩
  obtain ⟨ρ, rs, μ, ds, hn, rep, tm, g, pp⟩ := hsp
  cases rep with
  | clo rc rv =>
  have lim : s.heap.NoLimit := e0.mod.nolimit.keeps fun b o e => (e0.bs b o e).1
  have rcH : Rd H κ.c (LamX.CodeO κ.c κ.q) := (rd_hid.mp rc).2
  obtain ⟨⟨oc, vs', t, hoc, hdc, hvc⟩, _, _⟩ := rcH.ok e0.hok
  have of1 := (e0.bs _ _ hf).1
  refine PySem.W.kla_callFunE hr.depth of1 rfl S.co S.gen rfl ⟨κ.c, oc, vs', t, rfl, hoc, hdc, hvc⟩ ?_
  refine hb _ _ _ _ (wpAny_newFunctionEnv S.nocell (fun ⟨n, _⟩ hy => S.par n (List.of_mem_zip hy).1) (fun h₁ hns hsb => ⟨lim.fresh _ hsb, ?_⟩) S.kind)
  show codeAny _ _ (.expr body (envF (nfL κ params scope cl) κ.f s.heap.objs.size)) _ _
  have kp : ∀ b o, s.heap.get? b = some o → h₁.get? b = some o := fun b o e => hsb.extBut b o (Nat.ne_of_lt (Heap.lt_size e)) (Heap.get?_push_of_some _ e)
  have C : CellsAt cl fr (κ.vs.map some) s.heap H := by
    refine ⟨by rw [List.length_map]; exact hvs, fun y a e => ?_, hinj, fun i y e => ?_⟩
    · obtain ⟨o, v, h1, h2⟩ := hcell y a e
      exact ⟨(e0.bs _ _ h1).2, v, o, (e0.bs _ _ h1).1, h2⟩
    · obtain ⟨a, h1, h2⟩ := hhas i y e
      refine ⟨a, h1, fun v hv => ?_⟩
      rw [List.getElem?_map] at hv
      cases ev : κ.vs[i]? with
      | none => rw [ev] at hv; cases hv
      | some v' =>
        rw [ev] at hv
        cases hv
        obtain ⟨u, q1, o, q2, q3⟩ := h2 v ev
        exact ⟨u, q1, o, (e0.bs _ _ q2).1, q3⟩
  have hl : vs.length = ps.length := by rw [tm.length, hn]
  have J : Inv (ncx (L2N.CX P w) P w K mg base N (nfL κ params scope cl) κ.f A outer s H E) [] (startF N vs (κ.vs.map some)) H { s with heap := h₁, toks := s.toks + (ps.zip us).length } := inv_startN S hr.hd e0 hl r C hns kp
  have okk : Ok ⟨K, T, H, ρ.length⟩ ρ [] (sloC N.length rs ds) μ (startF N vs (κ.vs.map some)) H := by
    refine ⟨g, ?_, fun a h => h, fun i a h1 h2 => ?_, Nat.le_refl _⟩
    · exact startF_sl (by simpa using tm) (by simpa using rv) N.length
    · exact absurd (List.getElem?_eq_some_iff.mp h2).1 (by show ¬ i < ρ.length; have : ρ.length ≤ i := h1; omega)
  have q : tD ⟨K, T, H, ρ.length⟩ (fun cls d _ H => E cls d H) fb (startF N vs (κ.vs.map some)) H Q := by
    refine ⟨ρ, _, μ, okk, ?_⟩
    unfold lamF at pp
    rw [← g.len] at pp
    cases e : fb (sloC N.length rs ds) μ with
    | bad => rw [e] at pp; exact pp.elim
    | ok r1 μ1 =>
      rw [e] at pp
      exact fun v H' ρ' st rep => finR_ok (c := ⟨K, T, H, ρ.length⟩) rfl rfl rfl rfl pp st rep
    | exc C1 μ1 =>
      rw [e] at pp
      intro H' ρ' st ok'
      obtain ⟨t, rfl⟩ := st.ext
      exact pp H' ⟨.refl, st.ex.trans (.sub fun a h => by simp at h ⊢; exact .inl h), st.grow⟩ (ok'.g.cut (fun a h => by simp at h))
  refine PySem.W.kla_codeExpr (wpAny_mono ((hbody A outer s H E H ρ.length (hr.deeper _)).run [] _ _ H Q J q) (fun v s' ⟨w', H', J', rv, q⟩ => ⟨w', H', J'.os, J'.bare, J'.base, J'.hok, rv, q⟩) fun e s' hq => hq)
end
/-! ### a def that is handed a lambda -/
open Classical in
/-- the result that does not lean on where the lambda lies -/
noncomputable def same (G : Clo → Res) : Res := if ∀ κ κ', G κ = G κ' then G default else .bad
theorem same_eq {G : Clo → Res} {r : Res} (h : ∀ κ, G κ = r) : same G = r := by
  unfold same
  rw [if_pos fun κ κ' => (h κ).trans (h κ').symm]
  exact h _
theorem same_at (G : Clo → Res) (κ : Clo) : same G = .bad ∨ same G = G κ := by
  unfold same
  split
  · rename_i h; exact .inr (h _ _)
  · exact .inl rfl
/-- what is captured: data -/
def capD : List Nat → Sl → Option (List D)
  | [], _ => some []
  | j :: js, s => match s[j]? with
    | some (some (.val d)) => match capD js s with
      | some ds => some (d :: ds)
      | none => none
    | _ => none
noncomputable def eHo (F : Clo → FF) (js : List Nat) (fe : EF) : EF := fun s μ => (fe s μ).bind fun r μ1 => match capD js s with
  | some ds => same fun κ => F κ [r, .val (.clo κ ds)] μ1
  | none => .bad
theorem capD_ok {K : PySem.W.Frag} {ρ : List Addr} {Hh : Hp} {s : Sl} {σ : L2.St} (h : SlK K ρ Hh s σ) : ∀ {js : List Nat} {ds : List D}, capD js s = some ds → ∃ vs, Reps K Hh ds vs ∧ js.map (slotAt σ) = vs.map some
  | [], ds, e => by cases e; exact ⟨[], .nil, rfl⟩
  | j :: js, ds, e => by
    unfold capD at e
    split at e
    · rename_i d hd
      split at e
      · rename_i ds' he
        cases e
        obtain ⟨vs, h1, h2⟩ := capD_ok h he
        obtain ⟨v, h3, h4⟩ := h.get hd
        exact ⟨v :: vs, .cons h4 h1, by rw [List.map_cons, List.map_cons, h2, slotAt_of h3]⟩
      · cases e
    · cases e
section
variable {X : Cx} {pins : List (Addr × Obj)} {σ : L2.St} {H : Hp} {s : Shared}
/-- a captured cell is no frame -/
theorem cell_nofr (I : Inv X pins σ H s) {y : Str} {a : Addr} (hc : X.env.cells.lookup y = some a) (hf : X.fn y = true) : a ∉ frs X.stack := fun z => by
  rcases List.mem_cons.mp (I.stkSub _ z) with e | e
  · obtain ⟨v, o, ho, hd⟩ := I.cell y a hc
    obtain ⟨m, hn, _⟩ := I.loc
    obtain ⟨ob, es, ep, h1, h2, _⟩ := hn
    rw [e, h1] at ho
    cases ho
    rw [h2] at hd
    cases hd
  · have h1 := I.ok.cab y a hf hc
    obtain ⟨_, o, ho, _⟩ := I.ok.funs.mem e
    exact absurd (Heap.lt_size ho) (Nat.not_lt_of_le h1)
end
section
variable {c : Cc} {W : WX} {X : Cx} {x : Str} {k k' kL : Nat} {g cd P : Addr} {psg N ps fr : List Str} {js : List Nat} {params : Arguments} {body e : Expr} {scope : Scope} {F : Clo → FF} {fe fb : EF} {p pos lpos : Pos}
/-- x(e, lambda ..: ..), in the place where the lambda has just been made -/
theorem run_ho {pins : List (Addr × Obj)} {s2 : Shared} {σ : L2.St} {H1 H2 : Hp} {Q : VK} {f c' : Addr} {pm ctv : Value} {ρ : List Addr} {s0 : Sl} {μ1 : Mu} {rs : List R} {ds : List D} {us : List Value} {vs : List V}
    (hK : c.K = X.K) (hF : psg.length = rs.length + 1)
    (G : ∀ base' κ, (∀ b o, X.base.get? b = some o → base'.get? b = some o) → CloOk X.prog X.w X.K X.mg base' c.T (kL + 1) κ ps.length (lamF N.length fb) → ∃ fd, Binds X.K fd psg [] ∧ FnOk X.prog X.w X.K X.mg base' (L2N.CX X.prog X.w) k g fd psg (spF X.K c.T psg.length (F κ)))
    (hr : Room k' X.A) (hle : k ≤ k') (tk : L2N.Takes X W) (S : NScope N ps fr scope) (nb : ndefB X.env.scope scope fr = true) (hjs : js.map (fun j => X.N[j]?) = fr.map some) (hfn : ∀ y ∈ fr, X.fn y = true)
    (hbind : ∀ (q : Str) (cl : List (Str × Addr)) (pm cv ctv : Value) (us : List Value), us.length = ps.length → bindArgs (PySem.W.kla_fn "<lambda>" q params body scope cl pm cv ctv) ⟨us, []⟩ = pure (ps.zip us))
    (hbody : ∀ (base' : Heap) (κ : Clo) (A : Around) (outer : List Env) (s : Shared) (H : Hp) (E : XK) (B : Hp) (n : Nat), (∀ b o, X.base.get? b = some o → base'.get? b = some o) → Room kL (A.deeper (envF (nfL κ params scope (cloFrom X.env.cells scope.names [])) κ.f s.heap.objs.size)) →
      PE (ncx (L2N.CX X.prog X.w) X.prog X.w X.K X.mg base' N (nfL κ params scope (cloFrom X.env.cells scope.names [])) κ.f A outer s H E) body (tD ⟨X.K, c.T, B, n⟩ (fun cls d _ H => E cls d H) fb))
    (I2 : Inv X pins σ H2 s2) (hf : s2.heap.get? f = some (PySem.W.kla_obj "<lambda>" (X.env.qual ++ "<lambda>") params body scope (cloFrom X.env.cells scope.names []) pm c' ctv)) (hfn' : H2 f = none) (hfr : f ∉ frs X.stack) (hco : H2 c' = some (CodeO c' (X.env.qual ++ "<lambda>")))
    (ok : Ok c ρ [] s0 μ1 σ H1) (st : StepX ρ H1 [] ρ H2) (ok2 : Ok c ρ [] s0 μ1 σ H2) (tm : Tmps c.K ρ (hid H1 ρ) rs vs) (r : Vals vs us) (hnr : c' ∉ ρ) (hcap : capD js s0 = some ds)
    (pp : Post c W ρ H1 s0 σ Q (same fun κ => F κ (rs ++ [.val (.clo κ ds)]) μ1)) : wpAny (model X.prog X.w) X.A (call (.ref g) (us ++ [.ref f])) (EP X pins σ Q) X.xe s2 := by
  obtain ⟨cK, cT, cB, cn⟩ := c
  have hK : cK = X.K := hK
  subst hK
  obtain ⟨ws, h1, h2⟩ := capD_ok (by simpa using ok2.sl) hcap
  have hfree := ndef_free nb
  have cap := Caps.made (X := X) (scope := scope) (fr := fr) (js := js) I2.ok hfree (ndef_fr nb) hjs
  have C := cells_of I2 cap
  have nofr : ∀ y a, (cloFrom X.env.cells scope.names []).lookup y = some a → a ∉ frs X.stack := fun y a e => by
    refine cell_nofr I2 (cap.sub y a e) (hfn y ?_)
    rcases cloFrom_mem (PySem.mem_of_lookup e) with hm | ⟨q1, q2⟩
    · cases hm
    · exact S.free _ q1 rfl
  let κ : Clo := ⟨f, c', X.env.qual ++ "<lambda>", ws⟩
  have Vl : CloOk X.prog X.w X.K X.mg (wideB s2.heap H2 (frs X.stack)) cT (kL + 1) κ ps.length (lamF N.length fb) := by
    refine lam_ok (κ := κ) (pm := pm) (ctv := ctv) S (wide_get hf hfn' hfr) ?_ (fun y a e => ?_) C.inj (fun i y e => ?_) (hbind _ _ _ _ _) fun A outer s H E B n hr => hbody _ κ A outer s H E B n (fun b o e => wide_base I2 e) hr
    · have q := C.len
      rw [h2, List.length_map] at q
      exact q
    · obtain ⟨n0, v, o, ho, hd⟩ := C.all y a e
      exact ⟨o, v, wide_get ho n0 (nofr y a e), hd⟩
    · obtain ⟨a, q1, q2⟩ := C.has i y e
      refine ⟨a, q1, fun v hv => ?_⟩
      have hv' : ws[i]? = some v := hv
      obtain ⟨u, q3, o, q4, q5⟩ := q2 v (by rw [h2, List.getElem?_map, hv']; rfl)
      exact ⟨u, q3, o, wide_get q4 (C.all y a q1).1 (nofr y a q1), q5⟩
  obtain ⟨fd, hb, FF⟩ := G _ κ (fun b o e => wide_base I2 e) Vl
  have repc : Rep X.K (hid H2 ρ) (.clo κ ds) (.ref f) := .clo (κ := κ) (.inl (hid_some.mpr ⟨hnr, hco⟩)) h1
  have happ : ∀ {rs : List R} {vs : List V}, Tmps X.K ρ (hid H2 ρ) rs vs → Tmps X.K ρ (hid H2 ρ) (rs ++ [.val (.clo κ ds)]) (vs ++ [.ref f]) := by
    intro rs vs t
    induction t with
    | nil => exact .cons repc .nil
    | cons t _ ih => exact .cons t ih
  have hsp : spF X.K cT psg.length (F κ) (vs ++ [.ref f]) H2 Q (WE W σ) := by
    refine ⟨ρ, rs ++ [.val (.clo κ ds)], μ1, by rw [List.length_append, hF]; rfl, happ (tm.keep .refl st.keep), ok2.g, post_call ok2 (Post.from st ?_)⟩
    rcases same_at (fun κ => F κ (rs ++ [.val (.clo κ ds)]) μ1) κ with z | z
    · rw [z] at pp; exact pp.elim
    · rw [z] at pp; exact pp
  have r2 : Vals (vs ++ [.ref f]) (us ++ [Value.ref f]) := r.append (.cons rfl .nil)
  have hl : (us ++ [Value.ref f]).length = psg.length := by rw [← r2.length]; exact FF.len _ _ _ _ hsp
  have b := hb s2 (us ++ [.ref f]) I2.kIn (by rw [List.append_nil]; exact hl)
  rw [List.append_nil] at b
  refine wpAny_call (codeAny_mono (FF.run X.A X.stack s2 H2 ⟨us ++ [.ref f], []⟩ (us ++ [.ref f]) (vs ++ [.ref f]) Q (WE W σ) (hr.mono hle) (wide_env0 I2) b r2 hsp) fun r s' hq => ?_)
  cases r with
  | error e => exact L2N.passAt tk σ pins H2 s2 e s' I2 hq
  | ok fl =>
    cases fl with
    | ret u => exact I2.after hq
    | next => exact False.elim hq
    | brk => exact False.elim hq
    | cont => exact False.elim hq
theorem Ok.noC {ρ : List Addr} {s0 : Sl} {μ : Mu} {σ : L2.St} {H : Hp} {a : Addr} {q : Str} (ok : Ok c ρ [] s0 μ σ H) (h : H a = some (CodeO a q)) : a ∉ ρ := fun z => by
  obtain ⟨i, hi⟩ := List.mem_iff_getElem?.mp z
  obtain ⟨m, h1, h2⟩ := mu_of ok.g hi
  unfold CodeO at h
  cases m with
  | lst xs => obtain ⟨vs, q1, _⟩ := h2; rw [h] at q1; cases q1
  | dct xs => obtain ⟨vs, q1, _⟩ := h2; rw [h] at q1; cases q1
  | ins C fs => obtain ⟨dx, vs, q1, _⟩ := h2; rw [h] at q1; cases q1
  | gone => exact h2
/-- x(e, lambda ..: ..) -/
theorem de_ho (hK : c.K = X.K) (hF : psg.length = 2)
    (G : ∀ base' κ, (∀ b o, X.base.get? b = some o → base'.get? b = some o) → CloOk X.prog X.w X.K X.mg base' c.T (kL + 1) κ ps.length (lamF N.length fb) → Got X.prog X.w X.K X.mg base' c.T k x g psg (F κ))
    (hm : X.mg x = some (.ref g)) (hk : PySem.W.keepIn X.K (.ref g) = true) (hg : Gl X x)
    (hr : Room k' X.A) (hle : k ≤ k') (tk : L2N.Takes X W) (S : NScope N ps fr scope) (nb : ndefB X.env.scope scope fr = true) (hjs : js.map (fun j => X.N[j]?) = fr.map some) (hfn : ∀ y ∈ fr, X.fn y = true)
    (TB : TabB X.base X.mg cd P) (hcode : X.env.code = .ref cd) (hmT : (P, X.env.qual ++ "<lambda>") ∈ c.T) (hu : ∀ p ∈ c.T, p.1 = P → p.2 = X.env.qual ++ "<lambda>")
    (he : PE X e (tD c W fe))
    (hbody : ∀ (base' : Heap) (κ : Clo) (A : Around) (outer : List Env) (s : Shared) (H : Hp) (E : XK) (B : Hp) (n : Nat), (∀ b o, X.base.get? b = some o → base'.get? b = some o) → Room kL (A.deeper (envF (nfL κ params scope (cloFrom X.env.cells scope.names [])) κ.f s.heap.objs.size)) →
      PE (ncx (L2N.CX X.prog X.w) X.prog X.w X.K X.mg base' N (nfL κ params scope (cloFrom X.env.cells scope.names [])) κ.f A outer s H E) body (tD ⟨X.K, c.T, B, n⟩ (fun cls d _ H => E cls d H) fb))
    (hbind : ∀ (q : Str) (cl : List (Str × Addr)) (pm cv ctv : Value) (us : List Value), us.length = ps.length → bindArgs (PySem.W.kla_fn "<lambda>" q params body scope cl pm cv ctv) ⟨us, []⟩ = pure (ps.zip us))
    (hdef : defaultsOf params X.env = ([], []) := by rfl) (hdb : (x == ("__debug__" : Str)) = false := by decide)
    (h1 : starEach [e, .Lambda params body scope lpos] X.env = (false, eval e X.env) :: starEach [.Lambda params body scope lpos] X.env := by rfl)
    (hpl : (backTo pos (starEach [.Lambda params body scope lpos] X.env)).any (·.1) = false := by rfl)
    (h2 : backTo pos (starEach [.Lambda params body scope lpos] X.env) = (false, eval (.Lambda params body scope lpos) X.env) :: backTo pos (starEach [] X.env) := by rfl) :
    PE X (.Call (.Name x p) [e, .Lambda params body scope lpos] [] pos) (tD c W (eHo F js fe)) := by
  refine ⟨fun pins s σ H Q I q => ?_⟩
  refine wpAny_Call_Name_kw (ld_glob I hg hm ?_ hdb)
  refine PySem.W.callWith_K (h₀ := X.base) I.ok.mod.kin hk ?_ h1 hpl
  rw [h1]
  show wpAny _ _ (spliced ((false, eval e X.env) :: backTo pos (starEach [.Lambda params body scope lpos] X.env))) _ _ s
  have q1 := tD_bind (g := fun s r μ1 => match capD js s with
    | some ds => same fun κ => F κ [r, .val (.clo κ ds)] μ1
    | none => .bad) (k := fun σ v H Q => ∃ ρ s μ r, RepR c ρ s μ σ H r v ∧ Post c W ρ H s σ Q (match capD js s with
    | some ds => same fun κ => F κ [r, .val (.clo κ ds)] μ
    | none => .bad)) (fun ρ s μ σ H r v Q rep p => ⟨ρ, s, μ, r, rep, p⟩) σ H Q q
  refine Calls.spliced_cons (thn (he.run pins s σ H _ I q1) fun u s1 ⟨v, H1, I1, r1, ρ, s0, μ1, r, rep, pp⟩ => ?_)
  rw [h2]
  have ok1 := rep.ok
  refine Calls.spliced_cons (lam_makeG I1 TB hcode hmT hu ok1.g.tabs hdef (fun y hy ey => (ndef_free nb y hy ey).elim (fun z => I1.ok.has _ (.inl z)) fun z => I1.ok.has _ (.inr z)) fun f c' pm' ctv H2 s2 I2 eN gr T2 hf hfn' hfr hco => ?_)
  refine Calls.spliced_nil ⟨I2.kIn, ?_⟩
  obtain ⟨ok2, st⟩ := ok1.lam eN gr T2
  cases hcap : capD js s0 with
  | none => rw [hcap] at pp; exact pp.elim
  | some ds =>
    rw [hcap] at pp
    exact run_ho (rs := [r]) (us := [u]) (vs := [v]) (body := body) hK hF (fun base' κ hb V => by
      obtain ⟨_, _, fd, h3, h4⟩ := G base' κ hb V
      exact ⟨fd, h3.1, h4⟩) hr hle tk S nb hjs hfn hbind hbody I2 hf hfn' hfr hco ok1 st ok2 (.cons rep.tmp .nil) (.cons r1 .nil) (ok2.noC hco) hcap pp
end
theorem _root_.LamX.TabB.keeps {base base' : Heap} {mg : Str → Option Value} {c P : Addr} (t : TabB base mg c P) (h : ∀ b o, base.get? b = some o → base'.get? b = some o) : TabB base' mg c P := ⟨t.code.keeps h, t.bm.keeps h, t.gP⟩
/-! ### how to reckon with it -/
def cloK (κ : Clo) (n : Nat) (cnt : List D → FF) (fs : AF) (s : Sl) (μ : Mu) : Option (Option R) → Res
  | some (some (.val (.clo κ' ds))) => if κ' = κ then eFn n (cnt ds) fs s μ else .bad
  | _ => .bad
@[simp] theorem sm_eFnC {κ : Clo} {n i : Nat} {cnt : List D → FF} {fs : AF} {s : Sl} {μ : Mu} : eFnC κ n cnt i fs s μ = cloK κ n cnt fs s μ s[i]? := (rfl)
@[simp] theorem cloK_s {κ : Clo} {n : Nat} {cnt : List D → FF} {fs : AF} {s : Sl} {μ : Mu} {ds : List D} : cloK κ n cnt fs s μ (some (some (.val (.clo κ ds)))) = eFn n (cnt ds) fs s μ := by
  show (if κ = κ then eFn n (cnt ds) fs s μ else .bad) = _
  rw [if_pos rfl]
noncomputable def hoK2 (F : Clo → FF) (r : R) (μ : Mu) : Option (List D) → Res
  | some ds => same fun κ => F κ [r, .val (.clo κ ds)] μ
  | none => .bad
noncomputable def hoK (F : Clo → FF) (js : List Nat) (s : Sl) (r : R) (μ : Mu) : Res := hoK2 F r μ (capD js s)
@[simp] theorem sm_eHo {F : Clo → FF} {js : List Nat} {fe : EF} {s : Sl} {μ : Mu} : eHo F js fe s μ = (fe s μ).bind (hoK F js s) := bind_ext fun r μ1 => by
  unfold hoK hoK2
  cases capD js s <;> rfl
theorem hoK_s {F : Clo → FF} {js : List Nat} {s : Sl} {r : R} {μ : Mu} {ds : List D} {x : Res} (h : capD js s = some ds) (e : ∀ κ, F κ [r, .val (.clo κ ds)] μ = x) : hoK F js s r μ = x := by
  unfold hoK hoK2
  rw [h]
  exact same_eq e
def linK (n : Nat) : Res → Res
  | .ok r μ1 => finR n r μ1
  | .exc C μ1 => .exc C (μ1.take n)
  | .bad => .bad
@[simp] theorem sm_lamF {N : Nat} {f : EF} {ds : List D} {rs : List R} {μ : Mu} : lamF N f ds rs μ = linK μ.length (f (sloC N rs ds) μ) := by
  unfold lamF linK
  cases f (sloC N rs ds) μ <;> rfl
@[simp] theorem linK_v {μ : Mu} {d : D} : linK μ.length (.ok (.val d) μ) = .ok (.val d) μ := by simp [linK, finR]
end Dl

namespace Dl
open PySem PySem.Spec PyProof.Rows L2
/-! ### set(list of whole numbers), known enough to be sorted -/
/-- a set just made -/
abbrev oSet (w : World) : Obj := { cls := .type "set", dict := none, data := .set #[] 0 (.fresh 0 0 (!w.params.followText "set-order")) }
section
variable {P : Program} {w : World} {A : Around} {E : Value → Shared → Prop} {s : Shared}
/-- what is left when the list has been walked -/
abbrev SetDone (w : World) (s : Shared) (ns : List Int) (r : Value) (s2 : Shared) : Prop := r = .none ∧ ∃ h' tk c, s2 = { s with heap := h', toks := tk } ∧ SetR w h' s.heap.objs.size (fun j => decide (j ∈ ns)) c ∧ c ≤ ns.length ∧ ∀ b o, s.heap.get? b = some o → h'.get? b = some o
set_option maxRecDepth 100000 in
set_option maxHeartbeats 3200000 in
theorem call_setL {l : Addr} {its : Array Value} (ns : List Int) {Q : Value → Shared → Prop} (hd : A.handled = none) (hl : s.heap.IsList l its) (hi : IntsAre its.toList ns) (hb : ns.length + 1 < scanBound)
    (k : ∀ h' tk c, SetR w h' s.heap.objs.size (fun j => decide (j ∈ ns)) c → c ≤ ns.length → (∀ b o, s.heap.get? b = some o → h'.get? b = some o) → Q (.ref s.heap.objs.size) { s with heap := h', toks := tk }) : wpAny (model P w) A (call (.type "set") [.ref l]) Q E s := by
  have sz : its.size = ns.length := by rw [← Array.length_toList]; exact IntsAre.length hi
  obtain ⟨c0, tl0, mro0⟩ := F.called_set.mro
  have b1 := F.called_set.made
  have b2 := F.called_set.sub
  have b3 := F.called_set.notType
  have b4 := F.called_set.canCreate
  have b5 := F.typeCall_set_1 (.ref l)
  apply wpAny_call
  apply codeAny_of_tree
  show wpAny _ _ (callAny (.type "set") _) _ _ s
  apply wpAny_pure
  refine ⟨Code.quiet_builtin _ (by decide +kernel), ?_⟩
  apply codeAny_builtin F.entry_type_call
  rw [Around.under_plain (weight_type_call_type "set" [.ref l] []) rfl]
  repeat (any_goals (first | assumption | wp_step))
  apply codeAny_mono (code_set_led1 (.ref l) (E := E) (Q₁ := fun v t => v = .ref s.heap.objs.size ∧ t = { s with heap := s.heap.push (oSet w) }) ⟨rfl, rfl⟩)
  intro r t hr
  match r, hr with
  | .error e, hr => exact hr
  | .ok .next, hr => exact hr.elim
  | .ok .brk, hr => exact hr.elim
  | .ok .cont, hr => exact hr.elim
  | .ok (.ret v), hr =>
    obtain ⟨e1, e2⟩ := hr
    subst e1; subst e2
    have atS : (s.heap.push (oSet w)).get? s.heap.objs.size = some (oSet w) := Heap.get?_push_size _ rfl
    have tyS : Shared.TypeIs { s with heap := s.heap.push (oSet w) } (.ref s.heap.objs.size) "set" := ⟨_, atS, rfl⟩
    have b6 := F.called_set.init.lookup
    have b7 := F.called_set.init.bind (.ref s.heap.objs.size)
    repeat (any_goals (first | assumption | wp_step))
    apply codeAny_mono (codeAny_call_builtin (R := wants (SetDone w s ns) E) F.called_set.init.plain F.entry_set_init (check_set_init_1 tyS ?_))
    · intro r2 t2 hr2
      match r2, hr2 with
      | .error e, hr2 => exact hr2
      | .ok .next, hr2 => exact hr2.elim
      | .ok .brk, hr2 => exact hr2.elim
      | .ok .cont, hr2 => exact hr2.elim
      | .ok (.ret v2), hr2 =>
        obtain ⟨e1, h', tk, c, e2, d1, d2, d3⟩ := hr2
        subst e1; subst e2
        repeat (any_goals (first | assumption | wp_step))
        exact k h' tk c d1 d2 d3
    · obtain ⟨⟨oc, odc, od, osl⟩, g1, g2, nl, g3⟩ := hl
      simp only at g2 g3
      subst g2; subst g3
      have lt := Heap.lt_size g1
      have g1' : (s.heap.push (oSet w)).get? l = some ⟨.type "list", odc, .seq its nl, osl⟩ := Heap.get?_push_of_some _ g1
      have lis : (s.heap.push (oSet w)).IsList l its := ⟨_, g1', rfl, nl, rfl⟩
      have q1 := F.sub_list_set
      have q2 := F.sub_list_frozenset
      have q3 : (Value.type "list" == Value.type "dict") = false := by decide
      have ni : l ≠ (s.heap.push (oSet w)).objs.size := Nat.ne_of_lt (by rw [Heap.size_push]; exact Nat.lt_succ_of_lt lt)
      have n0 : s.heap.objs.size ≠ (s.heap.push (oSet w)).objs.size := Nat.ne_of_lt (by rw [Heap.size_push]; exact Nat.lt_succ_self _)
      have nf : s.heap.objs.size ∉ [(s.heap.push (oSet w)).objs.size, l] := fun z => by
        rcases List.mem_cons.mp z with z | z
        · exact n0 z
        · exact Nat.ne_of_gt lt (List.mem_singleton.mp z)
      have it : ∀ (i : Nat) (v : Value), its[i]? = some v → ∃ k t, ns[i]? = some k ∧ v = .int k t := fun i v e => by
        obtain ⟨t, et⟩ := PyProof.Rows.IntsAre.int_at hi i v (by rw [Array.getElem?_toList]; exact e)
        have li : i < ns.length := sz ▸ (Array.getElem?_eq_some_iff.mp e).1
        refine ⟨ns[i], t, List.getElem?_eq_getElem li, ?_⟩
        rw [et, List.getD_eq_getElem?_getD, List.getElem?_eq_getElem li]
        rfl
      unfold Builtin.«set.__init__» noKeywords Builtin.Frozenset.updateFrom
      generalize hPI : pyIter = PI
      wp_walk
      subst hPI
      refine wpAny_pyIter_list lis (wpAny_bind (wpAny_runValue ?_))
      have hd3 : A.in1.in1.in1.handled = none := by simp [hd]
      refine set_update_ints ((Walks.list hd3 _ l ni its).toS) s.heap.objs.size nf ns sz hb it (its.size - 0) 0 _ (by omega) (Nat.zero_le _) ⟨⟨_, Heap.get?_push_size _ rfl, rfl, rfl⟩, lis.push _⟩ ⟨0, Nat.le_refl 0, setR_new_at (Heap.get?_push_of_some _ atS)⟩ fun t c hm hc hS => ?_
      obtain ⟨h', g', d', tk', os'⟩ := t
      obtain rfl : g' = s.gens := hm.gens
      obtain rfl : d' = s.drawn := hm.drawn
      obtain rfl : os' = s.os := hm.os
      show wpAny _ _ _ _ _ _
      apply wpAny_pure
      show wpAny _ _ (ret Value.none) _ _ _
      apply wpAny_pure
      rw [sz] at hc
      refine ⟨rfl, h', tk', c, rfl, hS, hc, fun b o e => ?_⟩
      have e0 := Heap.lt_size e
      refine hm.heap b o (fun z => ?_) (Heap.get?_push_of_some _ (Heap.get?_push_of_some _ e))
      rcases List.mem_cons.mp z with z | z
      · exact Nat.ne_of_lt e0 z
      · exact Nat.ne_of_lt (Nat.lt_trans e0 (by rw [Heap.size_push]; exact Nat.lt_succ_self _)) (List.mem_singleton.mp z)
end
end Dl

namespace Dl
open PySem PySem.Spec PyProof.Rows L2
/-! ### sorted(set(whole numbers)) -/
def insU (x : Int) : List Int → List Int
  | [] => [x]
  | y :: r => if x < y then x :: y :: r else if x = y then y :: r else y :: insU x r
def srtU (zs : List Int) : List Int := zs.foldr insU []
theorem insU_mem (x z : Int) : ∀ l : List Int, z ∈ insU x l ↔ z = x ∨ z ∈ l
  | [] => by simp [insU]
  | y :: r => by
    unfold insU
    split
    · simp
    · split
      · rename_i h; subst h; simp
      · rw [List.mem_cons, insU_mem x z r, List.mem_cons]
        constructor
        · rintro (h | h | h)
          · exact .inr (.inl h)
          · exact .inl h
          · exact .inr (.inr h)
        · rintro (h | h | h)
          · exact .inr (.inl h)
          · exact .inl h
          · exact .inr (.inr h)
theorem insU_up (x : Int) : ∀ l : List Int, l.Pairwise (· < ·) → (insU x l).Pairwise (· < ·)
  | [], _ => by simp [insU]
  | y :: r, h => by
    obtain ⟨h1, h2⟩ := List.pairwise_cons.mp h
    unfold insU
    split
    · rename_i hx
      refine List.pairwise_cons.mpr ⟨fun z hz => ?_, h⟩
      rcases List.mem_cons.mp hz with e | e
      · omega
      · have := h1 z e; omega
    · split
      · exact h
      · refine List.pairwise_cons.mpr ⟨fun z hz => ?_, insU_up x r h2⟩
        rcases (insU_mem x z r).mp hz with e | e
        · omega
        · exact h1 z e
theorem srtU_mem (z : Int) : ∀ zs : List Int, z ∈ srtU zs ↔ z ∈ zs
  | [] => by simp [srtU]
  | x :: zs => by
    have ih := srtU_mem z zs
    unfold srtU at ih ⊢
    rw [List.foldr_cons, insU_mem, ih, List.mem_cons]
theorem srtU_up : ∀ zs : List Int, (srtU zs).Pairwise (· < ·)
  | [] => .nil
  | x :: zs => by
    have ih := srtU_up zs
    unfold srtU at ih ⊢
    rw [List.foldr_cons]
    exact insU_up x _ ih
/-- one ascending list for each set -/
theorem up_uniq {xs ys : List Int} (hx : xs.Pairwise (· < ·)) (hy : ys.Pairwise (· < ·)) (h : ∀ z, z ∈ xs ↔ z ∈ ys) : xs = ys := by
  have nx : xs.Nodup := hx.imp fun h => by omega
  have ny : ys.Nodup := hy.imp fun h => by omega
  have p : xs.Perm ys := (List.perm_ext_iff_of_nodup nx ny).mpr h
  exact List.Perm.eq_of_pairwise (le := (· < ·)) (fun a b _ _ h1 h2 => by omega) hx hy p
def rSrt (K : PySem.W.Frag) (te : TE) : TE := fun σ H Q => te σ H fun v H1 => ∃ (b : Addr) (zs : List Int), v = V.ref b ∧ SqL K H1 b (zs.map V.int) ∧ zs.length ≤ 60 ∧ ∀ p, H1 p = none → Q (.ref p) (upd H1 p (.lst ((srtU zs).map V.int)))
theorem pe_srt {X : Cx} {e : Expr} {te : TE} {q1 q2 q3 pos : Pos} (hc : X.calm = true) (g1 : Gl X "sorted") (n1 : X.mg "sorted" = none) (g2 : Gl X "set") (n2 : X.mg "set" = none) (he : PE X e te)
    (na : starEach [e] X.env = (false, eval e X.env) :: starEach [] X.env := by rfl) : PE X (.Call (.Name "sorted" q1) [.Call (.Name "set" q2) [e] [] q3] [] pos) (rSrt X.K te) :=
  ⟨fun pins s σ H Q I h => by
    apply Call_ (ld_blt I g1 n1 boot_sorted _)
    apply PyProof.Rows.callWith_builtin1 (PyProof.Rows.args_cons _ rfl) rfl rfl
    apply Call_ (ld_blt I g2 n2 boot_set _)
    refine PyProof.Rows.callWith_type1 (PyProof.Rows.args_cons (thn (he.run pins s σ H _ I h) fun v t ⟨x, G, J, rx, b, zs, ex, hb, hl, q⟩ => PyProof.Rows.args_nil ?_) na) na rfl
    subst ex
    cases rx
    obtain ⟨us, ru, pu, _⟩ := J.list hb
    have hd := J.ok.hd hc
    refine call_setL zs hd pu.isList (by simpa using ru.ints) (by unfold scanBound; omega) fun h' tk c hS hcl hk => PyProof.Rows.args_nil ?_
    have J2 : Inv X pins σ G { t with heap := h', toks := tk } := J.kept (t' := tk) fun b o e => hk b o e
    refine sorted_set hS hd (by omega) fun s' p out c2 ns k g o hp hg hi hs hm hln => ?_
    have hsz : ns.length ≤ sizeLine := by rw [hln, sizeLine_eq]; omega
    have hn : G p = none := J2.hok.fresh hp
    have ens : ns = srtU zs := up_uniq hs (srtU_up zs) fun z => by
      rw [hm z, srtU_mem]
      simp
    have J3 : Inv X pins σ (upd G p (.lst (ns.map V.int))) { { t with heap := h', toks := tk } with heap := s'.heap, gens := s'.gens, drawn := s'.drawn, toks := s'.toks } :=
      J2.call (ch := []) (Un.laid k hp hn) (J2.hok.laid k hp ⟨by rw [List.length_map]; exact hsz, out.toList, c2, vals_of_ints hi, hg⟩) (by rw [g]; exact J2.bare) (fun _ z => nomatch z)
    have es : s' = { { t with heap := h', toks := tk } with heap := s'.heap, gens := s'.gens, drawn := s'.drawn, toks := s'.toks } := by
      obtain ⟨a1, a2, a3, a4, a5⟩ := s'
      cases o
      rfl
    rw [es]
    exact ⟨.ref p, _, J3, rfl, by rw [ens]; exact q p hn⟩⟩
def srtD : D → Mu → Res
  | .lst ds, μ => match asInts ds with
    | some zs => if zs.length ≤ 60 then .ok (.newL ((srtU zs).map .int)) μ else .bad
    | none => .bad
  | _, _ => .bad
def eSrt (f : EF) : EF := fun s μ => (f s μ).bind fun x μ1 => one srtD x μ1
theorem insU_len (x : Int) : ∀ l : List Int, (insU x l).length ≤ l.length + 1
  | [] => Nat.le_refl _
  | y :: r => by
    have := insU_len x r
    unfold insU
    split
    · simp
    · split
      · simp
      · simp; omega
theorem srtU_len : ∀ zs : List Int, (srtU zs).length ≤ zs.length
  | [] => Nat.le_refl _
  | x :: zs => by
    have h1 := srtU_len zs
    have h2 := insU_len x (srtU zs)
    unfold srtU at h1 h2 ⊢
    rw [List.foldr_cons, List.length_cons]
    omega
theorem repsI {K : PySem.W.Frag} {H : Hp} : ∀ ns : List Int, Reps K H (ns.map .int) (ns.map V.int)
  | [] => .nil
  | n :: ns => .cons (.int n) (repsI ns)
section
variable {c : Cc} {W : WX} {X : Cx}
theorem de_srt {e : Expr} {fe : EF} {q1 q2 q3 pos : Pos} (hK : c.K = X.K) (hc : X.calm = true) (g1 : Gl X "sorted") (n1 : X.mg "sorted" = none) (g2 : Gl X "set") (n2 : X.mg "set" = none) (he : PE X e (tD c W fe))
    (na : starEach [e] X.env = (false, eval e X.env) :: starEach [] X.env := by rfl) : PE X (.Call (.Name "sorted" q1) [.Call (.Name "set" q2) [e] [] q3] [] pos) (tD c W (eSrt fe)) :=
  (pe_srt hc g1 n1 g2 n2 he na).imp fun σ H Q q => by
    refine tD_bind (g := fun _ x μ1 => one srtD x μ1) (k := fun σ x H1 Q => ∃ (b : Addr) (zs : List Int), x = V.ref b ∧ SqL X.K H1 b (zs.map V.int) ∧ zs.length ≤ 60 ∧ ∀ p, H1 p = none → Q (.ref p) (upd H1 p (.lst ((srtU zs).map V.int)))) (fun ρ s μ σ H r v Q rep p => ?_) σ H Q q
    obtain ⟨d, e1, p⟩ := one_post p
    unfold srtD at p
    split at p
    · split at p
      · rename_i zs q
        split at p
        · rename_i hl
          obtain ⟨b, vs, rfl, h1, l1, r1⟩ := lst_of rep.ok.g rep.tmp e1
          rw [ints_ok r1 q] at h1
          exact ⟨b, zs, rfl, hK ▸ .of h1, hl, p.newL rep.ok (repsI _) (by rw [List.length_map]; exact Nat.le_trans (srtU_len zs) (Nat.le_trans hl (le_line (by omega))))⟩
        · exact p.elim
      · exact p.elim
    · exact p.elim
end
@[simp] theorem sm_eSrt {f : EF} {s : Sl} {μ : Mu} : eSrt f s μ = (f s μ).bind (one srtD) := (rfl)
theorem srtD_i {ds : List D} {zs : List Int} {μ : Mu} (h : asInts ds = some zs) (hl : zs.length ≤ 60) : srtD (.lst ds) μ = .ok (.newL ((srtU zs).map .int)) μ := by
  show (match asInts ds with | some zs => if zs.length ≤ 60 then Res.ok (.newL ((srtU zs).map .int)) μ else .bad | none => .bad) = _
  rw [h]
  exact if_pos hl
/-! ### xs[::-1] -/
def revD : D → Mu → Res
  | .lst a, μ => .ok (.newL a.reverse) μ
  | .tup a, μ => .ok (.val (.tup a.reverse)) μ
  | _, _ => .bad
def eRev (f : EF) : EF := fun s μ => (f s μ).bind fun x μ1 => one revD x μ1
@[simp] theorem sm_eRev {f : EF} {s : Sl} {μ : Mu} : eRev f s μ = (f s μ).bind (one revD) := (rfl)
@[simp] theorem revD_l {a : List D} {μ : Mu} : revD (.lst a) μ = .ok (.newL a.reverse) μ := (rfl)
@[simp] theorem revD_t {a : List D} {μ : Mu} : revD (.tup a) μ = .ok (.val (.tup a.reverse)) μ := (rfl)
theorem Reps.rev {K : PySem.W.Frag} {H : Hp} : ∀ {ds : List D} {vs : List V}, Reps K H ds vs → Reps K H ds.reverse vs.reverse
  | _, _, .nil => .nil
  | _, _, .cons r t => by rw [List.reverse_cons, List.reverse_cons]; exact (Reps.rev t).snoc r
theorem filterMap_same {α β : Type} {f g : α → Option β} : ∀ {l : List α}, (∀ a ∈ l, f a = g a) → l.filterMap f = l.filterMap g
  | [], _ => rfl
  | x :: l, h => by rw [List.filterMap_cons, List.filterMap_cons, h x List.mem_cons_self, filterMap_same fun a ha => h a (List.mem_cons_of_mem _ ha)]
section
variable {P : Program} {w : World} {A : Around} {E : Value → Shared → Prop} {s : Shared}
theorem sl_rev {sl : Addr} {vl vu vs : Value} {n : Nat} {Q : Int × Int × Nat → Shared → Prop} (hs : s.heap.IsSliceOf sl vl vu vs) (pl : IsPart vl none) (pu : IsPart vu none) (ps : IsPart vs (some (-1)))
    (k : Q ((n : Int) - 1, -1, n) s) : wpAny (model P w) A (Builtin.Slice.sliceApplied (.ref sl) (pure (n : Int))) Q E s := by
  obtain ⟨os, g1, g2, g3⟩ := id hs
  unfold Builtin.Slice.sliceApplied Builtin.Slice.sliceFields
  apply wpAny_bind
  refine wpAny_bind (wpAny_field g1 g3 (x := vl) rfl (wpAny_bind (wpAny_field g1 g3 (x := vu) rfl (wpAny_bind (wpAny_field g1 g3 (x := vs) rfl (wpAny_pure ?_))))))
  apply wpAny_bind
  apply HT.slicePart_ ps
  show wpAny _ _ (if ((-1 : Int) == 0) = true then _ else _) _ _ s
  rw [if_neg (by decide)]
  apply wpAny_bind
  apply HT.slicePart_ pl
  apply wpAny_bind
  apply HT.slicePart_ pu
  apply wpAny_bind
  apply wpAny_pure
  show wpAny _ _ (match Builtin.Slice.sliceAdjust none none (-1) (n : Int) with | (lo, hi) => pure (lo, (-1 : Int), Builtin.Slice.slicePlaces lo hi (-1))) _ _ s
  have e1 : Builtin.Slice.sliceAdjust none none (-1) (n : Int) = ((n : Int) - 1, -1) := rfl
  have e2 : Builtin.Slice.slicePlaces ((n : Int) - 1) (-1) (-1) = n := by
    unfold Builtin.Slice.slicePlaces
    rw [if_neg (by decide)]
    by_cases h : n = 0
    · subst h; rfl
    · rw [if_pos (by omega), show (-(-1) : Int) = 1 from rfl, Int.ediv_one]
      omega
  rw [e1]
  show wpAny _ _ (pure ((n : Int) - 1, (-1 : Int), Builtin.Slice.slicePlaces ((n : Int) - 1) (-1) (-1))) _ _ s
  rw [e2]
  exact wpAny_pure k
theorem tup_rev_item {t sl : Addr} {its : Array Value} {vl vu vs : Value} {Q : Value → Shared → Prop} (ht : IsTup s.heap t its) (hs : s.heap.IsSliceOf sl vl vu vs) (pl : IsPart vl none) (pu : IsPart vu none) (ps : IsPart vs (some (-1))) (hz : its.size ≤ sizeLine)
    (k : ∀ its', its' = its.toList.reverse.toArray → Q (.ref s.heap.objs.size) { s with heap := s.heap.push { cls := .type "tuple", data := .seq its' } }) : wpAny (model P w) A (getItem (.ref t) (.ref sl)) Q E s := by
  obtain ⟨os, g1, g2, g3⟩ := id hs
  have ty : s.TypeIs (.ref sl) "slice" := ⟨os, g1, g2⟩
  have ok : sizeOk (.seq its.toList.reverse.toArray) := by
    show its.toList.reverse.toArray.size ≤ sizeLine
    simpa using hz
  unfold getItem
  try with_reducible refine wpAny_holding ?_
  first | refine wpAny_bind (wpAny_pure ?_) | skip
  apply wpAny_bind
  apply wpAny_sequenceKey ht.typeIs (by decide)
  refine wpAny_bind (wpAny_callSpecial?_slot (name := Str.ofString "__getitem__") ht.typeIs PyProof.Rows.slot_tuple_getitem (wpAny_call_entry PyProof.Rows.slot_tuple_getitem ht.typeIs PyProof.Rows.entry_tuple_getitem ?_ (PyProof.Rows.args_tuple_getitem _ _)))
  show wpAny _ _ (Builtin.Tuple.tupleItemsOf (.ref t) >>= _) _ _ s
  apply wpAny_bind
  apply PyProof.Rows.tupleItemsOf_ ht
  apply wpAny_bind
  apply wpAny_typeOf ty
  rw [if_pos (by decide)]
  apply wpAny_bind
  apply sl_rev hs pl pu ps
  have no : ¬ ((((its.size : Int) - 1) == 0 && (-1 : Int) == 1 && its.size == its.size) = true) := by simp
  show wpAny _ _ (if (((its.size : Int) - 1) == 0 && (-1 : Int) == 1 && its.size == its.size) = true then _ else _) _ _ s
  rw [if_neg no]
  have pick : ((List.range its.size).filterMap fun (m : Nat) => its[((its.size : Int) - 1 + (m : Int) * -1).toNat]?).toArray = its.toList.reverse.toArray := by
    have h := HT.pick_gen its.toList.reverse.toArray 0 its.size
    rw [List.drop_zero, List.take_of_length_le (by simp)] at h
    rw [← h]
    refine congrArg List.toArray (filterMap_same fun m hm => ?_)
    have hm := List.mem_range.mp hm
    rw [show ((its.size : Int) - 1 + (m : Int) * -1).toNat = its.size - 1 - m by omega, show (((0 : Nat) : Int) + (m : Int) * 1).toNat = m by omega]
    have e1 : its.toList.reverse.toArray[m]? = its.toList.reverse[m]? := by simp
    rw [e1, List.getElem?_reverse (by rw [Array.length_toList]; exact hm), Array.length_toList, Array.getElem?_toList]
  rw [pick]
  exact wpAny_bind (m := Builtin.Tuple.tupleExact _) (wpAny_newObj_type (wpAny_pure ⟨_, rfl, wpAny_pure (k _ rfl)⟩) ok)
end
section
variable {c : Cc} {W : WX} {X : Cx}
def tRevA (K : PySem.W.Frag) (te : TE) : TE := fun σ H Q => te σ H fun x H1 => ∃ a xs, x = .ref a ∧ ((SqL K H1 a xs ∧ ∀ p, H1 p = none → Q (.ref p) (upd H1 p (.lst xs.reverse))) ∨ (SqT K H1 a xs ∧ ∀ p, H1 p = none → Q (.ref p) (upd H1 p (.tup xs.reverse))))
theorem pe_revA {e : Expr} {te : TE} {k : Nat} {p1 p2 p3 pos : Pos} (he : PE X e te) : PE X (.Subscript e (.Slice none none (some (.UnaryOp .USub (.Constant (.int 1) k p1) p2)) p3) pos) (tRevA X.K te) :=
  ⟨fun pins s σ H Q I h => by
    apply Subscript_
    refine thn (he.run pins s σ H _ I h) fun v s1 ⟨x, H1, I1, rx, a, xs, ex, q⟩ => ?_
    subst ex
    cases rx
    have st : PO X (some (.UnaryOp .USub (.Constant (.int 1) k p1) p2)) (tPart (tUn (rU fun i => .int (-i)) (tC (.int 1)))) := po_some (pe_un un_neg pe_int)
    apply wpAny_Slice
    refine thn (po_none.run pins s1 σ H1 (fun o G => o = none ∧ G = H1) I1 ⟨rfl, rfl⟩) fun vl s2 ⟨l, H2, I2, pl, e1, e2⟩ => ?_
    subst e1 e2
    refine thn (po_none.run pins s2 σ H2 (fun o G => o = none ∧ G = H2) I2 ⟨rfl, rfl⟩) fun vu s3 ⟨u, H3, I3, pu, e1, e2⟩ => ?_
    subst e1 e2
    refine thn (st.run pins s3 σ H3 (fun o G => o = some (-1) ∧ G = H3) I3 ⟨1, rfl, -1, rfl, rfl, rfl⟩) fun vs s4 ⟨o, H4, I4, pz, e1, e2⟩ => ?_
    subst e1 e2
    have J : Inv X pins σ H4 { s4 with heap := s4.heap.push { cls := .type "slice", data := .fields #[vl, vu, vs] } } := I4.kept (t' := s4.toks) fun b ob z => Heap.get?_push_of_some _ z
    rcases q with ⟨hx, q⟩ | ⟨hx, q⟩
    · obtain ⟨its, r, ht, hz⟩ := J.list hx
      have hl := r.length
      apply tail_any (ops := [.ref a, .ref s4.heap.objs.size]) ht.isList.typeIs PySem.slot_list_getitem.lookup
      · apply wpAny_getItem_list_slice ht.isList (Heap.IsSliceOf.new _ vl vu vs) pl pu pz (by decide)
        · rw [PySem.W.krv_pick]
          exact ⟨.ref _, _, J.laid (t' := s4.toks) (o := .lst xs.reverse) (fun b ob z => Heap.get?_push_of_some _ z) (Nat.le_refl _) ⟨by rw [List.length_reverse]; exact hz, _, 0, r.reverse, Heap.get?_push_size _ rfl⟩, rfl, q _ (J.hok.fresh (Nat.le_refl _))⟩
      · with_unfolding_all rfl
    · obtain ⟨its, r, ht, hz⟩ := J.tuple hx
      have hl := r.length
      apply tail_any (ops := [.ref a, .ref s4.heap.objs.size]) ht.typeIs PyProof.Rows.slot_tuple_getitem.lookup
      · refine tup_rev_item ht (Heap.IsSliceOf.new _ vl vu vs) pl pu pz (by rw [List.size_toArray]; omega) fun its' e => ?_
        subst e
        exact ⟨.ref _, _, J.laid (t' := s4.toks) (o := .tup xs.reverse) (fun b ob z => Heap.get?_push_of_some _ z) (Nat.le_refl _) ⟨by rw [List.length_reverse]; exact hz, _, r.reverse, IsTup.new _ _⟩, rfl, q _ (J.hok.fresh (Nat.le_refl _))⟩
      · with_unfolding_all rfl⟩
theorem de_rev {e : Expr} {fe : EF} {k : Nat} {p1 p2 p3 pos : Pos} (hK : c.K = X.K) (he : PE X e (tD c W fe)) : PE X (.Subscript e (.Slice none none (some (.UnaryOp .USub (.Constant (.int 1) k p1) p2)) p3) pos) (tD c W (eRev fe)) :=
  (pe_revA he).imp fun σ H Q q => by
    refine tD_bind (g := fun _ x μ1 => one revD x μ1) (k := fun σ x H1 Q => ∃ a xs, x = .ref a ∧ ((SqL X.K H1 a xs ∧ ∀ p, H1 p = none → Q (.ref p) (upd H1 p (.lst xs.reverse))) ∨ (SqT X.K H1 a xs ∧ ∀ p, H1 p = none → Q (.ref p) (upd H1 p (.tup xs.reverse))))) (fun ρ s μ σ H r v Q rep p => ?_) σ H Q q
    obtain ⟨d, e1, p⟩ := one_post p
    unfold revD at p
    split at p
    · obtain ⟨a, vs, rfl, h1, l1, r1⟩ := lst_of rep.ok.g rep.tmp e1
      exact ⟨a, vs, rfl, .inl ⟨.of h1, p.newL rep.ok r1.rev (by rw [List.length_reverse]; exact l1)⟩⟩
    · obtain ⟨a, vs, rfl, h1, n1, l1, r1⟩ := tup_of rep.tmp e1
      exact ⟨a, vs, rfl, .inr ⟨.of h1, p.newT rep.ok r1.rev (by rw [List.length_reverse]; exact l1)⟩⟩
    · exact p.elim
/-! ### text * number -/
def mulSD : D → D → Mu → Res
  | .str a, .int j, μ => if 1 ≤ j ∧ j ≤ 1000 ∧ a.length ≤ 1000 then .ok (.val (.str (PySem.Txt.mul a j))) μ else .bad
  | _, _, _ => .bad
@[simp] theorem mulSD_s {a : Str} {j : Int} {μ : Mu} : mulSD (.str a) (.int j) μ = if 1 ≤ j ∧ j ≤ 1000 ∧ a.length ≤ 1000 then .ok (.val (.str (PySem.Txt.mul a j))) μ else .bad := (rfl)
def rMulS : R2 := fun x y H Q => ∃ a j, x = .str a ∧ y = .int j ∧ (1 ≤ j ∧ j ≤ 1000 ∧ a.length ≤ 1000) ∧ Q (.str (PySem.Txt.mul a j)) H
theorem op_mulS : OpR X (binaryOp .Mult) rMulS := by
  intro pins s σ H x y v u Q I rx ry h
  obtain ⟨a, j, rfl, rfl, ⟨h1, h2, h3⟩, q⟩ := h
  obtain ⟨t, rfl⟩ := rx
  obtain ⟨t2, rfl⟩ := ry
  refine PySem.SB.mul ⟨?_, fun _ _ => ?_, fun _ _ => ?_⟩ fun t' k => ⟨.str (PySem.Txt.mul a j), H, I.tok k, ⟨t', rfl⟩, q⟩
  · have a1 : ¬ j < -(2 ^ 63 : Int) := by omega
    have a2 : ¬ j ≥ 2 ^ 63 := by omega
    rw [decide_eq_false a1, decide_eq_false a2]
    rfl
  · have : (2 ^ 63 - 1) / 1000 ≤ (2 ^ 63 - 1) / j := by
      rw [Int.le_ediv_iff_mul_le (by omega)]
      have := Int.mul_le_mul_of_nonneg_left (show j ≤ 1000 by omega) (show (0 : Int) ≤ (2 ^ 63 - 1) / 1000 by decide)
      omega
    omega
  · have b1 : a.length * j.toNat ≤ 1000 * 1000 := Nat.mul_le_mul h3 (by omega)
    have b2 : sizeLine = 16777216 := sizeLine_eq
    exact decide_eq_false (by omega)
theorem de_mulS {a b : Expr} {fa fb : EF} {pos : Pos} (ha : PE X a (tD c W fa)) (hb : PE X b (tD c W fb)) : PE X (.BinOp a .Mult b pos) (tD c W (eBin mulSD fa fb)) :=
  de_bin op_mulS (fun ρ s μ σ H r1 r2 v1 v2 d1 d2 Q ok e1 e2 t1 t2 p => by
    unfold mulSD at p
    split at p
    · split at p
      · rename_i h
        exact ⟨_, _, str_of t1 e1, int_of t2 e2, h, p.val ok (.str _)⟩
      · exact p.elim
    · exact p.elim) ha hb
end
/-! ### a def that calls itself -/
section
variable {P : Program} {w : World} {K : PySem.W.Frag} {mg : Str → Option Value} {base : Heap} {T : List (Addr × Str)}
theorem got_bad {nm : Str} {ps : List Str} {st : Stmt} {f : Addr} {k : Nat} (d : DefAt K mg nm ps st f) : Got P w K mg base T k nm f ps (fun _ _ => .bad) := by
  obtain ⟨fd, h1, h2⟩ := d.fn
  exact ⟨d.g, d.k, fd, h2, fun vs H Q E ⟨ρ, rs, μ, hn, tm, _⟩ => by rw [tm.length, hn], fun A outer s H args us vs Q E hr e0 hb r ⟨ρ, rs, μ, hn, tm, g, p⟩ => p.elim⟩
end
end Dl

/-! ### the text by places -/
namespace K01
open PySem PySem.Spec PyProof.Rows L2 Dl NdefX
def top (i : Nat) : Stmt := PySem.Challenge.pw_wedgelooks_k01_wedges_copies_and_looks.main.body.getD i (.Pass ⟨0, 0, 0, 0⟩)
abbrev s_is_within : Stmt := top 21
abbrev N_is_within : List Str := ["value", "low", "high"]
abbrev s_is_mark : Stmt := top 22
abbrev N_is_mark : List Str := ["value"]
abbrev s_is_right_wedge : Stmt := top 23
abbrev N_is_right_wedge : List Str := ["value", "at", "mark"]
abbrev s_need_wedge : Stmt := top 24
abbrev N_need_wedge : List Str := ["value"]
abbrev s_need_index : Stmt := top 25
abbrev N_need_index : List Str := ["wedge", "value"]
abbrev s_need_copy : Stmt := top 26
abbrev N_need_copy : List Str := ["value", "most"]
abbrev s_angle_of : Stmt := top 28
abbrev N_angle_of : List Str := ["place", "copy"]
abbrev s_angle : Stmt := top 30
abbrev N_angle : List Str := ["wedge", "index", "copy"]
abbrev s_need_look : Stmt := top 27
abbrev N_need_look : List Str := ["value", "letter"]
abbrev s_copy_behind : Stmt := top 31
abbrev N_copy_behind : List Str := ["look", "here", "letter"]
abbrev s_look_to : Stmt := top 32
abbrev N_look_to : List Str := ["copy", "first", "at"]
abbrev s_is_wedge : Stmt := top 29
abbrev N_is_wedge : List Str := ["value"]
abbrev s__law_source : Stmt := top 34
abbrev N__law_source : List Str := ["script", "k", "number", "start"]
abbrev s__law_pick : Stmt := top 35
abbrev N__law_pick : List Str := ["source", "many", "found"]
abbrev s__law_chosen : Stmt := top 36
abbrev N__law_chosen : List Str := ["source", "things"]
abbrev s__law_is_bool : Stmt := top 37
abbrev N__law_is_bool : List Str := ["told", "due"]
abbrev s__law_any_value : Stmt := top 39
abbrev N__law_any_value : List Str := ["source", "deep", "simple_so", "way", "parts", "turn"]
abbrev s__law_variant : Stmt := top 40
abbrev N__law_variant : List Str := ["source", "value", "deep", "parts", "spot", "way", "inner", "near"]
abbrev s__law_drawn_wedge : Stmt := top 46
abbrev N__law_drawn_wedge : List Str := ["source", "least", "most", "places", "marks", "turn", "part", "place", "one"]
abbrev s__law_unfolded : Stmt := top 47
abbrev N__law_unfolded : List Str := ["place", "far", "found", "copy"]
abbrev s__law_wide : Stmt := top 38
abbrev N__law_wide : List Str := ["value", "low", "high"]
abbrev s__law_whole : Stmt := top 41
abbrev N__law_whole : List Str := ["value", "low", "high"]
abbrev s__law_good_mark : Stmt := top 48
abbrev N__law_good_mark : List Str := ["value"]
abbrev s__law_good : Stmt := top 49
abbrev N__law_good : List Str := ["value", "places", "place", "colour", "one"]
abbrev s__law_went : Stmt := top 50
abbrev N__law_went : List Str := ["look", "here", "letter", "sides"]
abbrev s__law_error : Stmt := top 42
abbrev N__law_error : List Str := ["e", "some", "word_so", "good"]
abbrev s__law_refused : Stmt := top 43
abbrev N__law_refused : List Str := ["call", "e"]
abbrev s__law_by_one : Stmt := top 44
abbrev N__law_by_one : List Str := ["call", "one"]
abbrev s__law_by_three : Stmt := top 45
abbrev N__law_by_three : List Str := ["call", "one", "other", "third"]
abbrev s__law_refusals : Stmt := top 51
abbrev N__law_refusals : List Str := ["wedge", "index", "odd"]
abbrev s_law : Stmt := top 52
abbrev N_law : List Str := ["script", "k", "source", "wedge", "values", "turn", "value", "index", "near", "far", "copy", "look", "odd"]
/-- where the defs and classes lie -/
structure Ad where
  is_within : Addr
  is_mark : Addr
  is_right_wedge : Addr
  need_wedge : Addr
  need_index : Addr
  need_copy : Addr
  angle_of : Addr
  angle : Addr
  need_look : Addr
  copy_behind : Addr
  look_to : Addr
  is_wedge : Addr
  _law_source : Addr
  _law_pick : Addr
  _law_chosen : Addr
  _law_is_bool : Addr
  _law_any_value : Addr
  _law_variant : Addr
  _law_drawn_wedge : Addr
  _law_unfolded : Addr
  _law_wide : Addr
  _law_whole : Addr
  _law_good_mark : Addr
  _law_good : Addr
  _law_went : Addr
  _law_error : Addr
  _law_refused : Addr
  _law_by_one : Addr
  _law_by_three : Addr
  _law_refusals : Addr
  law : Addr
  InvalidColour : Addr
  InvalidCopy : Addr
  InvalidDeed : Addr
  InvalidForm : Addr
  InvalidIndex : Addr
  InvalidLook : Addr
  InvalidNumber : Addr
  InvalidSeen : Addr
  InvalidText : Addr
  InvalidWedge : Addr
  NothingToUndo : Addr
  TooMany : Addr
  WedgeError : Addr
  c__law_by_one : Addr
  p__law_by_one : Addr
  c__law_by_three : Addr
  p__law_by_three : Addr
  er : Addr → Option Str
/-- code objects and their tables -/
def cs (a : Ad) : List (Addr × Addr) := [(a.c__law_by_one, a.p__law_by_one), (a.c__law_by_three, a.p__law_by_three)]
def Tl (a : Ad) : List (Addr × Str) := [(a.p__law_by_one, ("_law_by_one" : Str) ++ ".<locals>." ++ "<lambda>"), (a.p__law_by_three, ("_law_by_three" : Str) ++ ".<locals>." ++ "<lambda>")]
theorem hm__law_by_one (a : Ad) : (a.p__law_by_one, ("_law_by_one" : Str) ++ ".<locals>." ++ "<lambda>") ∈ Tl a := by simp [Tl]
theorem hm__law_by_three (a : Ad) : (a.p__law_by_three, ("_law_by_three" : Str) ++ ".<locals>." ++ "<lambda>") ∈ Tl a := by simp [Tl]
abbrev Bx (mg : Str → Option Value) (base : Heap) (a : Ad) : Prop := ∀ p ∈ cs a, LamX.TabB base mg p.1 p.2
/-! ### what each def does -/
-- is_within: slots 0=value 1=low 2=high
def B_is_within (a : Ad) : SF :=
  sRet (eAnd (eCall (on2 isiD) (aCons (eVarN 0) (aCons (eC (.ty "int")) (aNil)))) (eAnd (eNot (eCall (on2 isiD) (aCons (eVarN 0) (aCons (eC (.ty "bool")) (aNil))))) (eChain leD leD (eVarN 1) (eVarN 0) (eVarN 2))))
def F_is_within (a : Ad) : FF := defF 3 (B_is_within a)
-- is_mark: slots 0=value
def B_is_mark (a : Ad) : SF :=
  sSeq (sIf (tOrF (tNotF (tOf (eCall (on2 isiD) (aCons (eVarN 0) (aCons (eC (.ty "tuple")) (aNil)))))) (tOf (eBin neR (eCall (on1 lenD) (aCons (eVarN 0) (aNil))) (eC (.int 2))))) (sRet (eC (.bl false))) (sPass)) (sRet (eAnd (eFn 3 (F_is_within a) (aCons (eBin ixD (eVarN 0) (eC (.int 0))) (aCons (eC (.int 1)) (aCons (eBin subD (eC (.int (12))) (eC (.int 1))) (aNil))))) (eFn 3 (F_is_within a) (aCons (eBin ixD (eVarN 0) (eC (.int 1))) (aCons (eC (.int 0)) (aCons (eC (.int (2))) (aNil)))))))
def F_is_mark (a : Ad) : FF := defF 1 (B_is_mark a)
-- is_right_wedge: slots 0=value 1=at 2=mark
def B_is_right_wedge (a : Ad) : SF :=
  sSeq (sIf (tOrF (tNotF (tOf (eCall (on2 isiD) (aCons (eVarN 0) (aCons (eC (.ty "tuple")) (aNil)))))) (tOrF (tOf (eBin neR (eCall (on1 lenD) (aCons (eVarN 0) (aNil))) (eC (.int 3)))) (tNotF (tOf (eFn 3 (F_is_within a) (aCons (eBin ixD (eVarN 0) (eC (.int 0))) (aCons (eC (.int 1)) (aCons (eC (.int (6))) (aNil))))))))) (sRet (eC (.bl false))) (sPass)) (sSeq (sIf (tOrF (tNotF (tOf (eFn 3 (F_is_within a) (aCons (eBin ixD (eVarN 0) (eC (.int 1))) (aCons (eC (.int 1)) (aCons (eBin subD (eC (.int (12))) (eC (.int 1))) (aNil))))))) (tOrF (tNotF (tOf (eCall (on2 isiD) (aCons (eBin ixD (eVarN 0) (eC (.int 2))) (aCons (eC (.ty "tuple")) (aNil)))))) (tOf (eBin gtD (eCall (on1 lenD) (aCons (eBin ixD (eVarN 0) (eC (.int 2))) (aNil))) (eC (.int (5))))))) (sRet (eC (.bl false))) (sPass)) (sSeq (sFor (lEnT (aCons (eBin ixD (eVarN 0) (eC (.int 2))) (aNil))) (tgTup 2 (tgCons (tgName 1) (tgCons (tgName 2) (tgNil)))) (sIf (tOrF (tNotF (tOf (eFn 1 (F_is_mark a) (aCons (eVarN 2) (aNil))))) (tAndF (tOf (eBin gtD (eVarN 1) (eC (.int 0)))) (tOf (eBin leD (eBin ixD (eVarN 2) (eC (.int 0))) (eBin ixD (eBin ixD (eBin ixD (eVarN 0) (eC (.int 2))) (eBin subD (eVarN 1) (eC (.int 1)))) (eC (.int 0))))))) (sRet (eC (.bl false))) (sPass))) (sRet (eC (.bl true)))))
def F_is_right_wedge (a : Ad) : FF := defF 3 (B_is_right_wedge a)
-- need_wedge: slots 0=value
def B_need_wedge (a : Ad) : SF :=
  sIf (tNotF (tOf (eFn 1 (F_is_right_wedge a) (aCons (eVarN 0) (aNil))))) (sRaise (a.InvalidWedge)) (sPass)
def F_need_wedge (a : Ad) : FF := defF 1 (B_need_wedge a)
-- need_index: slots 0=wedge 1=value
def B_need_index (a : Ad) : SF :=
  sIf (tNotF (tOf (eFn 3 (F_is_within a) (aCons (eVarN 1) (aCons (eC (.int 0)) (aCons (eBin subD (eCall (on1 lenD) (aCons (eBin ixD (eVarN 0) (eC (.int 2))) (aNil))) (eC (.int 1))) (aNil))))))) (sRaise (a.InvalidIndex)) (sPass)
def F_need_index (a : Ad) : FF := defF 2 (B_need_index a)
-- need_copy: slots 0=value 1=most
def B_need_copy (a : Ad) : SF :=
  sIf (tNotF (tOf (eFn 3 (F_is_within a) (aCons (eVarN 0) (aCons (eNeg (eVarN 1)) (aCons (eVarN 1) (aNil))))))) (sRaise (a.InvalidCopy)) (sPass)
def F_need_copy (a : Ad) : FF := defF 2 (B_need_copy a)
-- angle_of: slots 0=place 1=copy
def B_angle_of (a : Ad) : SF :=
  sRet (eBin addD (eBin mulD (eC (.int (12))) (eVarN 1)) (eIf (tOf (eBin eqR (eBin modD (eVarN 1) (eC (.int 2))) (eC (.int 0)))) (eVarN 0) (eBin subD (eC (.int (12))) (eVarN 0))))
def F_angle_of (a : Ad) : FF := defF 2 (B_angle_of a)
-- angle: slots 0=wedge 1=index 2=copy
def B_angle (a : Ad) : SF :=
  sSeq (sExpr (eFn 1 (F_need_wedge a) (aCons (eVarN 0) (aNil)))) (sSeq (sExpr (eFn 2 (F_need_index a) (aCons (eVarN 0) (aCons (eVarN 1) (aNil))))) (sSeq (sExpr (eFn 2 (F_need_copy a) (aCons (eVarN 2) (aCons (eC (.int (1000000000000000000000000000000))) (aNil))))) (sRet (eFn 2 (F_angle_of a) (aCons (eBin ixD (eBin ixD (eBin ixD (eVarN 0) (eC (.int 2))) (eVarN 1)) (eC (.int 0))) (aCons (eVarN 2) (aNil)))))))
def F_angle (a : Ad) : FF := defF 3 (B_angle a)
-- need_look: slots 0=value 1=letter
def B_need_look (a : Ad) : SF :=
  sIf (tOrF (tNotF (tOf (eCall (on2 isiD) (aCons (eVarN 0) (aCons (eC (.ty "str")) (aNil)))))) (tOrF (tOf (eBin gtD (eCall (on1 lenD) (aCons (eVarN 0) (aNil))) (eC (.int (60))))) (tNotF (tOf (eCall (on1 allD) (aCons (eComp (lS (eVarN 0)) (tgName 1) (tYesF) (eBin inR (eVarN 1) (eC (.str "LR"))) [1]) (aNil))))))) (sRaise (a.InvalidLook)) (sPass)
def F_need_look (a : Ad) : FF := defF 2 (B_need_look a)
-- copy_behind: slots 0=look 1=here 2=letter
def B_copy_behind (a : Ad) : SF :=
  sSeq (sExpr (eFn 1 (F_need_look a) (aCons (eVarN 0) (aNil)))) (sSeq (sSet 1 (eC (.int 0))) (sSeq (sFor (lS (eVarN 0)) (tgName 2) (sSet 1 (eBin addD (eVarN 1) (eIf (tOf (eBin eqR (eBin eqR (eVarN 2) (eC (.str "R"))) (eBin eqR (eBin modD (eVarN 1) (eC (.int 2))) (eC (.int 0))))) (eC (.int 1)) (eNeg (eC (.int 1))))))) (sRet (eVarN 1))))
def F_copy_behind (a : Ad) : FF := defF 3 (B_copy_behind a)
-- look_to: slots 0=copy 1=first 2=at
def B_look_to (a : Ad) : SF :=
  sSeq (sExpr (eFn 2 (F_need_copy a) (aCons (eVarN 0) (aCons (eC (.int (60))) (aNil))))) (sSeq (sSet 1 (eIf (tOf (eBin gtD (eVarN 0) (eC (.int 0)))) (eC (.str "RL")) (eC (.str "LR")))) (sRet (eJoin (eC (.str "")) (eComp (lR1 (aCons (eCall (on1 absD) (aCons (eVarN 0) (aNil))) (aNil))) (tgName 2) (tYesF) (eBin ixD (eVarN 1) (eBin modD (eVarN 2) (eC (.int 2)))) [2]))))
def F_look_to (a : Ad) : FF := defF 3 (B_look_to a)
def Fv (a : Ad) : FTab := fun j => match j with
  | 0 => some (a.angle, 3, F_angle a)
  | 1 => some (a.copy_behind, 1, F_copy_behind a)
  | 2 => some (a.look_to, 1, F_look_to a)
  | _ => none
-- is_wedge: slots 0=value
def B_is_wedge (a : Ad) : SF :=
  sRet (eFn 1 (F_is_right_wedge a) (aCons (eVarN 0) (aNil)))
def F_is_wedge (a : Ad) : FF := defF 1 (B_is_wedge a)
-- _law_source: slots 0=script 1=k 2=number 3=start
def B__law_source (a : Ad) : SF :=
  sSeq (sSet 2 (eC (.int 0))) (sSeq (sIf (tOf (eBin gtD (eCall (on1 lenD) (aCons (eVarN 0) (aNil))) (eVarN 1))) (sSet 2 (eCall (on1 intD) (aCons (eBin ixD (eVarN 0) (eVarN 1)) (aNil)))) (sPass)) (sSeq (sSet 3 (eBin modD (eBin addD (eBin addD (eBin mulD (eVarN 2) (eC (.int 16807))) (eBin mulD (eC (.int 60919)) (eVarN 1))) (eC (.int 31))) (eC (.int 2147481173)))) (sSeq (sSet 3 (eBin addD (eBin addD (eBin modD (eBin mulD (eVarN 3) (eVarN 3)) (eC (.int 2147481151))) (eBin mulD (eC (.int 2)) (eVarN 1))) (eC (.int 5)))) (sRet (eLst (aCons (eIf (tOf (eBin geD (eVarN 2) (eBin powD (eC (.int 10)) (eC (.int 18))))) (eVarN 2) (eC (.int 0))) (aCons (eVarN 3) (aNil))))))))
def F__law_source (a : Ad) : FF := defF 4 (B__law_source a)
-- _law_pick: slots 0=source 1=many 2=found; changed: source
def B__law_pick (a : Ad) : SF :=
  sSeq (sIf (tOf (eBin gtD (eBin ixD (eVarN 0) (eC (.int 0))) (eC (.int 0)))) (sSeq (sSet 2 (eBin modD (eCall (on1 intD) (aCons (eBin ixD (eVarN 0) (eC (.int 0))) (aNil))) (eVarN 1))) (sSeq (sPutL (eBin divD (eCall (on1 intD) (aCons (eBin ixD (eVarN 0) (eC (.int 0))) (aNil))) (eVarN 1)) (eVarN 0) (eC (.int 0))) (sRet (eVarN 2)))) (sPass)) (sSeq (sPutL (eBin modD (eCall (on1 intD) (aCons (eBin addD (eBin mulD (eBin ixD (eVarN 0) (eC (.int 1))) (eC (.int 44497))) (eC (.int 9973))) (aNil))) (eC (.int 2147483647))) (eVarN 0) (eC (.int 1))) (sRet (eBin modD (eBin divD (eBin modD (eCall (on1 intD) (aCons (eBin mulD (eBin ixD (eVarN 0) (eC (.int 1))) (eBin ixD (eVarN 0) (eC (.int 1)))) (aNil))) (eC (.int 2147483399))) (eC (.int 11))) (eVarN 1))))
def F__law_pick (a : Ad) : FF := defF 3 (B__law_pick a)
-- _law_chosen: slots 0=source 1=things; changed: source
def B__law_chosen (a : Ad) : SF :=
  sRet (eBin ixD (eVarN 1) (eFn 2 (F__law_pick a) (aCons (eVarN 0) (aCons (eCall (on1 lenD) (aCons (eVarN 1) (aNil))) (aNil)))))
def F__law_chosen (a : Ad) : FF := defF 2 (B__law_chosen a)
-- _law_is_bool: slots 0=told 1=due
def B__law_is_bool (a : Ad) : SF :=
  sRet (eAnd (eCall (on2 isiD) (aCons (eVarN 0) (aCons (eC (.ty "bool")) (aNil)))) (eBin eqR (eVarN 0) (eVarN 1)))
def F__law_is_bool (a : Ad) : FF := defF 2 (B__law_is_bool a)
-- _law_any_value: slots 0=source 1=deep 2=simple_so 3=way 4=parts 5=turn; changed: source
def B__law_any_value (a : Ad) (rec : FF) : SF :=
  sSeq (sSet 2 (eLst (aCons (eC .non) (aCons (eC (.bl true)) (aCons (eC (.bl false)) (aCons (eC (.int 0)) (aCons (eC (.int 1)) (aCons (eC (.int 2)) (aCons (eNeg (eC (.int 3))) (aCons (eC (.int 11)) (aCons (eC (.str "")) (aCons (eC (.str "L")) (aCons (eTup (aNil)) (aCons (eLst (aNil)) (aCons (eTup (aCons (eC (.int 3)) (aCons (eC (.int 0)) (aNil)))) (aCons (eTup (aCons (eC (.int 1)) (aCons (eC (.int 6)) (aCons (eTup (aNil)) (aNil))))) (aNil))))))))))))))))) (sSeq (sSet 3 (eFn 2 (F__law_pick a) (aCons (eVarN 0) (aCons (eC (.int 8)) (aNil))))) (sSeq (sIf (tOrF (tOf (eBin ltD (eVarN 1) (eC (.int 1)))) (tOf (eBin ltD (eVarN 3) (eC (.int 5))))) (sRet (eFn 2 (F__law_chosen a) (aCons (eVarN 0) (aCons (eVarN 2) (aNil))))) (sPass)) (sSeq (sSet 4 (eComp (lR1 (aCons (eFn 2 (F__law_pick a) (aCons (eVarN 0) (aCons (eC (.int 5)) (aNil)))) (aNil))) (tgName 5) (tYesF) (eFn 2 rec (aCons (eVarN 0) (aCons (eBin subD (eVarN 1) (eC (.int 1))) (aNil)))) [5])) (sRet (eIf (tOf (eBin eqR (eVarN 3) (eC (.int 5)))) (eVarN 4) (eCall (on1 tupleD) (aCons (eVarN 4) (aNil))))))))
def R__law_any_value (a : Ad) : Nat → FF
  | 0 => fun _ _ => .bad
  | k + 1 => defF 6 (B__law_any_value a (R__law_any_value a k))
def F__law_any_value (a : Ad) : FF := R__law_any_value a 6
-- _law_variant: slots 0=source 1=value 2=deep 3=parts 4=spot 5=way 6=inner 7=near; changed: parts source
def B__law_variant (a : Ad) (rec : FF) : SF :=
  sSeq (sNew 3 (eCall (on1 listD) (aCons (eVarN 1) (aNil)))) (sSeq (sIf (tOf (eBin eqR (eVarN 3) (eLst (aNil)))) (sRet (eTup (aCons (eFn 2 (F__law_any_value a) (aCons (eVarN 0) (aCons (eC (.int 1)) (aNil)))) (aNil)))) (sPass)) (sSeq (sPar false 4 5 (eFn 2 (F__law_pick a) (aCons (eVarN 0) (aCons (eCall (on1 lenD) (aCons (eVarN 3) (aNil))) (aNil)))) (eFn 2 (F__law_pick a) (aCons (eVarN 0) (aCons (eC (.int 9)) (aNil))))) (sSeq (sSet 6 (eBin ixD (eVarN 3) (eVarN 4))) (sSeq (sIf (tAndF (tOf (eCall (on2 isiD) (aCons (eVarN 6) (aCons (eC (.ty "tuple")) (aNil))))) (tAndF (tOf (eBin gtD (eVarN 2) (eC (.int 0)))) (tOf (eBin gtD (eVarN 5) (eC (.int 2)))))) (sRet (eBin addD (eBin addD (eCall (on1 tupleD) (aCons (eSlN (eVarN 3) (eVarN 4)) (aNil))) (eTup (aCons (eFn 3 rec (aCons (eVarN 0) (aCons (eVarN 6) (aCons (eBin subD (eVarN 2) (eC (.int 1))) (aNil))))) (aNil)))) (eCall (on1 tupleD) (aCons (eSlL (eVarN 3) (eBin addD (eVarN 4) (eC (.int 1)))) (aNil))))) (sPass)) (sSeq (sIf (tOf (eBin eqR (eVarN 5) (eC (.int 0)))) (sRet (eCall (on1 tupleD) (aCons (eBin addD (eSlN (eVarN 3) (eVarN 4)) (eSlL (eVarN 3) (eBin addD (eVarN 4) (eC (.int 1))))) (aNil)))) (sPass)) (sSeq (sIf (tOf (eBin eqR (eVarN 5) (eC (.int 1)))) (sRet (eCall (on1 tupleD) (aCons (eBin addD (eSlN (eVarN 3) (eBin addD (eVarN 4) (eC (.int 1)))) (eSlL (eVarN 3) (eVarN 4))) (aNil)))) (sPass)) (sSeq (sIf (tOf (eBin eqR (eVarN 5) (eC (.int 2)))) (sRet (eCall (on1 tupleD) (aCons (eBin addD (eBin addD (eSlN (eVarN 3) (eVarN 4)) (eRev (eSlB (eVarN 3) (eVarN 4) (eBin addD (eVarN 4) (eC (.int 2)))))) (eSlL (eVarN 3) (eBin addD (eVarN 4) (eC (.int 2))))) (aNil)))) (sPass)) (sSeq (sIf (tOf (eBin eqR (eVarN 5) (eC (.int 3)))) (sRet (eVarN 3)) (sPass)) (sSeq (sIf (tOf (eBin ltD (eVarN 5) (eC (.int 6)))) (sPutL (eFn 2 (F__law_any_value a) (aCons (eVarN 0) (aCons (eC (.int 2)) (aNil)))) (eVarN 3) (eVarN 4)) (sSeq (sSet 7 (eLst (aCons (eC .non) (aCons (eC (.bl true)) (aCons (eC (.bl false)) (aCons (eC (.int 0)) (aCons (eC (.int 1)) (aCons (eNeg (eC (.int 1))) (aCons (eC (.int 2)) (aCons (eC (.int 3)) (aCons (eC (.int 6)) (aCons (eC (.int 7)) (aCons (eC (.int 11)) (aCons (eC (.int 12)) (aCons (eC (.str "")) (aCons (eTup (aNil)) (aCons (eTup (aCons (eC (.int 3)) (aCons (eC (.int 0)) (aNil)))) (aCons (eLst (aCons (eC (.int 3)) (aCons (eC (.int 0)) (aNil)))) (aNil))))))))))))))))))) (sPutL (eFn 2 (F__law_chosen a) (aCons (eVarN 0) (aCons (eVarN 7) (aNil)))) (eVarN 3) (eVarN 4)))) (sRet (eCall (on1 tupleD) (aCons (eVarN 3) (aNil)))))))))))))
def R__law_variant (a : Ad) : Nat → FF
  | 0 => fun _ _ => .bad
  | k + 1 => defF 8 (B__law_variant a (R__law_variant a k))
def F__law_variant (a : Ad) : FF := R__law_variant a 6
-- _law_drawn_wedge: slots 0=source 1=least 2=most 3=places 4=marks 5=turn 6=part 7=place 8=one; changed: marks source
def B__law_drawn_wedge (a : Ad) : SF :=
  sSeq (sPar true 3 4 (eBin lr2 (eC (.int 1)) (eC (.int 12))) (eLst (aNil))) (sSeq (sFor (lR1 (aCons (eBin addD (eVarN 1) (eFn 2 (F__law_pick a) (aCons (eVarN 0) (aCons (eBin addD (eBin subD (eVarN 2) (eVarN 1)) (eC (.int 1))) (aNil))))) (aNil))) (tgName 5) (sSeq (sSet 7 (eFn 2 (F__law_chosen a) (aCons (eVarN 0) (aCons (eVarN 3) (aNil))))) (sSeq (sSet 3 (eComp (lL (eVarN 3)) (tgName 8) (tOf (eBin neR (eVarN 8) (eVarN 7))) (eVarN 8) [8])) (sExpr (eApp (eVarN 4) (eTup (aCons (eVarN 7) (aCons (eFn 2 (F__law_pick a) (aCons (eVarN 0) (aCons (eC (.int 3)) (aNil)))) (aNil))))))))) (sSeq (sSet 6 (eFn 2 (F__law_chosen a) (aCons (eVarN 0) (aCons (eLst (aCons (eC (.int 1)) (aCons (eC (.int 1)) (aCons (eC (.int 2)) (aCons (eC (.int 3)) (aCons (eC (.int 4)) (aCons (eC (.int 5)) (aCons (eC (.int 6)) (aNil))))))))) (aNil))))) (sRet (eTup (aCons (eVarN 6) (aCons (eBin addD (eC (.int 1)) (eFn 2 (F__law_pick a) (aCons (eVarN 0) (aCons (eC (.int 11)) (aNil))))) (aCons (eCall (on1 tupleD) (aCons (eCall (on1 sortedD) (aCons (eVarN 4) (aNil))) (aNil))) (aNil))))))))
def F__law_drawn_wedge (a : Ad) : FF := defF 9 (B__law_drawn_wedge a)
-- _law_unfolded: slots 0=place 1=far 2=found 3=copy; changed: found
def B__law_unfolded (a : Ad) : SF :=
  sSeq (sNew 2 (eDisp ((.inl 0, eVarN 0) :: []))) (sSeq (sFor (lR1 (aCons (eVarN 1) (aNil))) (tgName 3) (sSeq (sPutD (eBin subD (eBin mulD (eC (.int 24)) (eBin addD (eVarN 3) (eC (.int 1)))) (eBin dgD (eVarN 2) (eVarN 3))) (eVarN 2) (eBin addD (eVarN 3) (eC (.int 1)))) (sPutD (eBin subD (eBin mulD (eNeg (eC (.int 24))) (eVarN 3)) (eBin dgD (eVarN 2) (eNeg (eVarN 3)))) (eVarN 2) (eBin subD (eNeg (eVarN 3)) (eC (.int 1)))))) (sRet (eVarN 2)))
def F__law_unfolded (a : Ad) : FF := defF 4 (B__law_unfolded a)
-- _law_wide: slots 0=value 1=low 2=high
def B__law_wide (a : Ad) : SF :=
  sRet (eAnd (eCall (on2 isiD) (aCons (eVarN 0) (aCons (eC (.ty "tuple")) (aNil)))) (eChain leD leD (eVarN 1) (eCall (on1 lenD) (aCons (eVarN 0) (aNil))) (eVarN 2)))
def F__law_wide (a : Ad) : FF := defF 3 (B__law_wide a)
-- _law_whole: slots 0=value 1=low 2=high
def B__law_whole (a : Ad) : SF :=
  sRet (eAnd (eCall (on2 isiD) (aCons (eVarN 0) (aCons (eC (.ty "int")) (aNil)))) (eAnd (eNot (eCall (on2 isiD) (aCons (eVarN 0) (aCons (eC (.ty "bool")) (aNil))))) (eChain leD leD (eVarN 1) (eVarN 0) (eVarN 2))))
def F__law_whole (a : Ad) : FF := defF 3 (B__law_whole a)
-- _law_good_mark: slots 0=value
def B__law_good_mark (a : Ad) : SF :=
  sRet (eAnd (eFn 3 (F__law_wide a) (aCons (eVarN 0) (aCons (eC (.int 2)) (aCons (eC (.int 2)) (aNil))))) (eAnd (eFn 3 (F__law_whole a) (aCons (eBin ixD (eVarN 0) (eC (.int 0))) (aCons (eC (.int 1)) (aCons (eC (.int 11)) (aNil))))) (eFn 3 (F__law_whole a) (aCons (eBin ixD (eVarN 0) (eC (.int 1))) (aCons (eC (.int 0)) (aCons (eC (.int 2)) (aNil)))))))
def F__law_good_mark (a : Ad) : FF := defF 1 (B__law_good_mark a)
-- _law_good: slots 0=value 1=places 2=place 3=colour 4=one
def B__law_good (a : Ad) : SF :=
  sSeq (sIf (tOrF (tNotF (tOf (eFn 3 (F__law_wide a) (aCons (eVarN 0) (aCons (eC (.int 3)) (aCons (eC (.int 3)) (aNil))))))) (tOrF (tNotF (tOf (eFn 3 (F__law_whole a) (aCons (eBin ixD (eVarN 0) (eC (.int 0))) (aCons (eC (.int 1)) (aCons (eC (.int 6)) (aNil))))))) (tNotF (tOf (eFn 3 (F__law_whole a) (aCons (eBin ixD (eVarN 0) (eC (.int 1))) (aCons (eC (.int 1)) (aCons (eC (.int 11)) (aNil))))))))) (sRet (eC (.bl false))) (sPass)) (sSeq (sIf (tOrF (tNotF (tOf (eFn 3 (F__law_wide a) (aCons (eBin ixD (eVarN 0) (eC (.int 2))) (aCons (eC (.int 0)) (aCons (eC (.int 5)) (aNil))))))) (tOf (eBin neR (eComp (lT (eBin ixD (eVarN 0) (eC (.int 2)))) (tgName 4) (tNotF (tOf (eFn 1 (F__law_good_mark a) (aCons (eVarN 4) (aNil))))) (eVarN 4) [4]) (eLst (aNil))))) (sRet (eC (.bl false))) (sPass)) (sSeq (sSet 1 (eComp (lT (eBin ixD (eVarN 0) (eC (.int 2)))) (tgTup 2 (tgCons (tgName 2) (tgCons (tgName 3) (tgNil)))) (tYesF) (eVarN 2) [2, 3])) (sRet (eBin eqR (eVarN 1) (eSrt (eVarN 1))))))
def F__law_good (a : Ad) : FF := defF 5 (B__law_good a)
-- _law_went: slots 0=look 1=here 2=letter 3=sides
def B__law_went (a : Ad) : SF :=
  sSeq (sSet 1 (eC (.int 0))) (sSeq (sFor (lS (eVarN 0)) (tgName 2) (sSeq (sSet 3 (eIf (tOf (eBin eqR (eBin modD (eVarN 1) (eC (.int 2))) (eC (.int 0)))) (eDisp ((.inr "L", eBin subD (eVarN 1) (eC (.int 1))) :: ((.inr "R", eBin addD (eVarN 1) (eC (.int 1))) :: []))) (eDisp ((.inr "R", eBin subD (eVarN 1) (eC (.int 1))) :: ((.inr "L", eBin addD (eVarN 1) (eC (.int 1))) :: []))))) (sSet 1 (eBin dgD (eVarN 3) (eVarN 2))))) (sRet (eVarN 1)))
def F__law_went (a : Ad) : FF := defF 4 (B__law_went a)
-- _law_error: slots 0=e 1=some 2=word_so 3=good
def ws (a : Ad) : List (Str × Addr) := [("wedge", a.InvalidWedge), ("number", a.InvalidNumber), ("index", a.InvalidIndex), ("copy", a.InvalidCopy), ("look", a.InvalidLook), ("colour", a.InvalidColour), ("form", a.InvalidForm), ("seen", a.InvalidSeen), ("deed", a.InvalidDeed), ("text", a.InvalidText), ("undo", a.NothingToUndo), ("many", a.TooMany)]
def B__law_error (a : Ad) (kit : Addr → Option Bool) (ea : Addr) : SF :=
  sSeq (sSet 1 (eLst (aCons (eTup (aCons (eC (.str "wedge")) (aCons (eCall (isE kit ea) (aCons (eVarN 0) (aCons (eC (.fn a.InvalidWedge 0)) (aNil)))) (aNil)))) (aCons (eTup (aCons (eC (.str "number")) (aCons (eCall (isE kit ea) (aCons (eVarN 0) (aCons (eC (.fn a.InvalidNumber 0)) (aNil)))) (aNil)))) (aNil))))) (sSeq (sSet 1 (eBin addD (eVarN 1) (eLst (aCons (eTup (aCons (eC (.str "index")) (aCons (eCall (isE kit ea) (aCons (eVarN 0) (aCons (eC (.fn a.InvalidIndex 0)) (aNil)))) (aNil)))) (aCons (eTup (aCons (eC (.str "copy")) (aCons (eCall (isE kit ea) (aCons (eVarN 0) (aCons (eC (.fn a.InvalidCopy 0)) (aNil)))) (aNil)))) (aNil)))))) (sSeq (sSet 1 (eBin addD (eVarN 1) (eLst (aCons (eTup (aCons (eC (.str "look")) (aCons (eCall (isE kit ea) (aCons (eVarN 0) (aCons (eC (.fn a.InvalidLook 0)) (aNil)))) (aNil)))) (aCons (eTup (aCons (eC (.str "colour")) (aCons (eCall (isE kit ea) (aCons (eVarN 0) (aCons (eC (.fn a.InvalidColour 0)) (aNil)))) (aNil)))) (aNil)))))) (sSeq (sSet 1 (eBin addD (eVarN 1) (eLst (aCons (eTup (aCons (eC (.str "form")) (aCons (eCall (isE kit ea) (aCons (eVarN 0) (aCons (eC (.fn a.InvalidForm 0)) (aNil)))) (aNil)))) (aCons (eTup (aCons (eC (.str "seen")) (aCons (eCall (isE kit ea) (aCons (eVarN 0) (aCons (eC (.fn a.InvalidSeen 0)) (aNil)))) (aNil)))) (aNil)))))) (sSeq (sSet 1 (eBin addD (eVarN 1) (eLst (aCons (eTup (aCons (eC (.str "deed")) (aCons (eCall (isE kit ea) (aCons (eVarN 0) (aCons (eC (.fn a.InvalidDeed 0)) (aNil)))) (aNil)))) (aCons (eTup (aCons (eC (.str "text")) (aCons (eCall (isE kit ea) (aCons (eVarN 0) (aCons (eC (.fn a.InvalidText 0)) (aNil)))) (aNil)))) (aNil)))))) (sSeq (sSet 1 (eBin addD (eVarN 1) (eLst (aCons (eTup (aCons (eC (.str "undo")) (aCons (eCall (isE kit ea) (aCons (eVarN 0) (aCons (eC (.fn a.NothingToUndo 0)) (aNil)))) (aNil)))) (aCons (eTup (aCons (eC (.str "many")) (aCons (eCall (isE kit ea) (aCons (eVarN 0) (aCons (eC (.fn a.TooMany 0)) (aNil)))) (aNil)))) (aNil)))))) (sRet (eJoin (eC (.str " ")) (eComp (lL (eVarN 1)) (tgTup 2 (tgCons (tgName 2) (tgCons (tgName 3) (tgNil)))) (tOf (eVarN 3)) (eVarN 2) [2, 3]))))))))
-- _law_by_one: slots 0=call 1=one
def B__law_by_one (a : Ad) : SF :=
  sRet (eRef a.er (eFnV (Fv a) 0 (aCons (eVarN 1) (aNil))))
def F__law_by_one (a : Ad) : FF := defF 2 (B__law_by_one a)
-- _law_by_three: slots 0=call 1=one 2=other 3=third
def B__law_by_three (a : Ad) : SF :=
  sRet (eRef a.er (eFnV (Fv a) 0 (aCons (eVarN 1) (aCons (eVarN 2) (aCons (eVarN 3) (aNil))))))
def F__law_by_three (a : Ad) : FF := defF 4 (B__law_by_three a)
-- _law_refusals: slots 0=wedge 1=index 2=odd
def B__law_refusals (a : Ad) : SF :=
  sSeq (sFor (lL (eLst (aCons (eC .non) (aCons (eBin addD (eBin powD (eC (.int 10)) (eC (.int 30))) (eC (.int 1))) (aCons (eBin subD (eNeg (eBin powD (eC (.int 10)) (eC (.int 30)))) (eC (.int 1))) (aCons (eC (.bl true)) (aCons (eC (.str "0")) (aNil)))))))) (tgName 2) (sIf (tOrF (tOf (eBin neR (eFn 4 (F__law_by_three a) (aCons (eC (.fn a.angle 0)) (aCons (eVarN 0) (aCons (eVarN 1) (aCons (eVarN 2) (aNil)))))) (eC (.str "copy")))) (tOf (eBin neR (eFn 2 (F__law_by_one a) (aCons (eC (.fn a.look_to 2)) (aCons (eVarN 2) (aNil)))) (eC (.str "copy"))))) (sRet (eC (.bl false))) (sPass))) (sSeq (sFor (lL (eLst (aCons (eC .non) (aCons (eNeg (eC (.int 1))) (aCons (eCall (on1 lenD) (aCons (eBin ixD (eVarN 0) (eC (.int 2))) (aNil))) (aCons (eC (.bl true)) (aNil))))))) (tgName 2) (sIf (tOf (eBin neR (eFn 4 (F__law_by_three a) (aCons (eC (.fn a.angle 0)) (aCons (eVarN 0) (aCons (eVarN 2) (aCons (eC .non) (aNil)))))) (eC (.str "index")))) (sRet (eC (.bl false))) (sPass))) (sSeq (sFor (lL (eLst (aCons (eC .non) (aCons (eC (.str "l")) (aCons (eBin mulSD (eC (.str "L")) (eC (.int 61))) (aCons (eLst (aCons (eC (.str "L")) (aNil))) (aCons (eC (.int 5)) (aCons (eC (.str "LRx")) (aNil))))))))) (tgName 2) (sIf (tOf (eBin neR (eFn 2 (F__law_by_one a) (aCons (eC (.fn a.copy_behind 1)) (aCons (eVarN 2) (aNil)))) (eC (.str "look")))) (sRet (eC (.bl false))) (sPass))) (sRet (eAnd (eBin eqR (eFn 4 (F__law_by_three a) (aCons (eC (.fn a.angle 0)) (aCons (eCall (on1 listD) (aCons (eVarN 0) (aNil))) (aCons (eC .non) (aCons (eC .non) (aNil)))))) (eC (.str "wedge"))) (eBin eqR (eFn 2 (F__law_by_one a) (aCons (eC (.fn a.look_to 2)) (aCons (eNeg (eC (.int 61))) (aNil)))) (eC (.str "copy")))))))
def F__law_refusals (a : Ad) : FF := defF 3 (B__law_refusals a)
-- law: slots 0=script 1=k 2=source 3=wedge 4=values 5=turn 6=value 7=index 8=near 9=far 10=copy 11=look 12=odd; changed: source values
def B_law (a : Ad) : SF :=
  sSeq (sFor (lR1 (aCons (eCall (on2 maxD) (aCons (eC (.int 6)) (aCons (eCall (on2 minD) (aCons (eC (.int 20)) (aCons (eCall (on1 lenD) (aCons (eVarN 0) (aNil))) (aNil)))) (aNil)))) (aNil))) (tgName 1) (sSeq (sNew 2 (eFn 2 (F__law_source a) (aCons (eVarN 0) (aCons (eVarN 1) (aNil))))) (sSeq (sSet 3 (eFn 3 (F__law_drawn_wedge a) (aCons (eVarN 2) (aCons (eC (.int 1)) (aCons (eC (.int 5)) (aNil)))))) (sSeq (sNew 4 (eLst (aCons (eVarN 3) (aCons (eCall (on1 listD) (aCons (eVarN 3) (aNil))) (aCons (eSlN (eVarN 3) (eC (.int 2))) (aCons (eBin addD (eVarN 3) (eTup (aCons (eC (.int 1)) (aNil)))) (aCons (eBin addD (eTup (aCons (eC (.int 7)) (aNil))) (eSlL (eVarN 3) (eC (.int 1)))) (aCons (eBin addD (eSlN (eVarN 3) (eC (.int 2))) (eTup (aCons (eBin mulTD (eBin ixD (eVarN 3) (eC (.int 2))) (eC (.int 2))) (aNil)))) (aCons (eC (.int 5)) (aNil)))))))))) (sSeq (sExpr (eApp (eVarN 4) (eBin addD (eSlN (eVarN 3) (eC (.int 2))) (eTup (aCons (eRev (eBin ixD (eVarN 3) (eC (.int 2)))) (aNil)))))) (sSeq (sFor (lR1 (aCons (eC (.int 30)) (aNil))) (tgName 5) (sSeq (sSet 12 (eFn 3 (F__law_variant a) (aCons (eVarN 2) (aCons (eVarN 3) (aCons (eC (.int 4)) (aNil)))))) (sSeq (sExpr (eApp (eVarN 4) (eVarN 12))) (sIf (tAndF (tOf (eCall (on2 isiD) (aCons (eVarN 12) (aCons (eC (.ty "tuple")) (aNil))))) (tOf (eBin eqR (eFn 2 (F__law_pick a) (aCons (eVarN 2) (aCons (eC (.int 3)) (aNil)))) (eC (.int 0))))) (sExpr (eApp (eVarN 4) (eFn 3 (F__law_variant a) (aCons (eVarN 2) (aCons (eVarN 12) (aCons (eC (.int 4)) (aNil))))))) (sPass))))) (sSeq (sFor (lL (eBin addD (eVarN 4) (eLst (aCons (eFn 2 (F__law_any_value a) (aCons (eVarN 2) (aCons (eC (.int 3)) (aNil)))) (aNil))))) (tgName 6) (sIf (tNotF (tOf (eFn 2 (F__law_is_bool a) (aCons (eFn 1 (F_is_wedge a) (aCons (eVarN 6) (aNil))) (aCons (eFn 1 (F__law_good a) (aCons (eVarN 6) (aNil))) (aNil)))))) (sRet (eC (.bl false))) (sPass))) (sSeq (sSet 7 (eFn 2 (F__law_pick a) (aCons (eVarN 2) (aCons (eCall (on1 lenD) (aCons (eBin ixD (eVarN 3) (eC (.int 2))) (aNil))) (aNil))))) (sSeq (sPar false 8 9 (eFn 2 (F__law_unfolded a) (aCons (eBin ixD (eBin ixD (eBin ixD (eVarN 3) (eC (.int 2))) (eVarN 7)) (eC (.int 0))) (aCons (eC (.int 25)) (aNil)))) (eBin mulD (eC (.int 2)) (eFn 2 (F__law_pick a) (aCons (eVarN 2) (aCons (eBin powD (eC (.int 10)) (eC (.int 28))) (aNil)))))) (sSeq (sFor (lD (eVarN 8)) (tgName 10) (sSeq (sIf (tOf (eBin neR (eFn 3 (F_angle a) (aCons (eVarN 3) (aCons (eVarN 7) (aCons (eVarN 10) (aNil))))) (eBin dgD (eVarN 8) (eVarN 10)))) (sRet (eC (.bl false))) (sPass)) (sIf (tOf (eBin neR (eFn 3 (F_angle a) (aCons (eVarN 3) (aCons (eVarN 7) (aCons (eBin subD (eVarN 10) (eVarN 9)) (aNil))))) (eBin subD (eBin dgD (eVarN 8) (eVarN 10)) (eBin mulD (eC (.int 12)) (eVarN 9))))) (sRet (eC (.bl false))) (sPass)))) (sSeq (sSet 11 (eJoin (eC (.str "")) (eComp (lR1 (aCons (eFn 2 (F__law_pick a) (aCons (eVarN 2) (aCons (eC (.int 61)) (aNil)))) (aNil))) (tgName 5) (tYesF) (eFn 2 (F__law_chosen a) (aCons (eVarN 2) (aCons (eLst (aCons (eC (.str "L")) (aCons (eC (.str "R")) (aNil)))) (aNil)))) [5]))) (sSeq (sSet 10 (eBin subD (eFn 2 (F__law_pick a) (aCons (eVarN 2) (aCons (eC (.int 121)) (aNil)))) (eC (.int 60)))) (sSeq (sIf (tOrF (tOf (eBin neR (eFn 1 (F_copy_behind a) (aCons (eVarN 11) (aNil))) (eFn 1 (F__law_went a) (aCons (eVarN 11) (aNil))))) (tOrF (tOf (eBin neR (eFn 1 (F__law_went a) (aCons (eFn 1 (F_look_to a) (aCons (eVarN 10) (aNil))) (aNil))) (eVarN 10))) (tOf (eBin neR (eCall (on1 lenD) (aCons (eFn 1 (F_look_to a) (aCons (eVarN 10) (aNil))) (aNil))) (eCall (on1 absD) (aCons (eVarN 10) (aNil))))))) (sRet (eC (.bl false))) (sPass)) (sIf (tNotF (tOf (eFn 2 (F__law_refusals a) (aCons (eVarN 3) (aCons (eVarN 7) (aNil)))))) (sRet (eC (.bl false))) (sPass))))))))))))))) (sSeq (sIf (tOrF (tOf (eFn 1 (F_is_wedge a) (aCons (eTup (aCons (eC (.int 1)) (aCons (eC (.int 6)) (aCons (eTup (aCons (eTup (aCons (eC (.int 3)) (aCons (eC (.int 0)) (aNil)))) (aCons (eTup (aCons (eC (.int 3)) (aCons (eC (.int 1)) (aNil)))) (aNil)))) (aNil))))) (aNil)))) (tOf (eBin neR (eLst (aCons (eFn 1 (F_copy_behind a) (aCons (eC (.str "RLR")) (aNil))) (aCons (eFn 1 (F_copy_behind a) (aCons (eC (.str "LRLL")) (aNil))) (aCons (eFn 1 (F_copy_behind a) (aCons (eC (.str "RR")) (aNil))) (aNil))))) (eLst (aCons (eC (.int 3)) (aCons (eNeg (eC (.int 2))) (aCons (eC (.int 0)) (aNil)))))))) (sRet (eC (.bl false))) (sPass)) (sRet (eAnd (eBin eqR (eFn 1 (F_look_to a) (aCons (eNeg (eC (.int 2))) (aNil))) (eC (.str "LR"))) (eAnd (eBin eqR (eFn 1 (F_look_to a) (aCons (eC (.int 0)) (aNil))) (eC (.str ""))) (eBin eqR (eFn 3 (F_angle a) (aCons (eTup (aCons (eC (.int 1)) (aCons (eC (.int 6)) (aCons (eTup (aCons (eTup (aCons (eC (.int 3)) (aCons (eC (.int 0)) (aNil)))) (aNil))) (aNil))))) (aCons (eC (.int 0)) (aCons (eNeg (eBin powD (eC (.int 10)) (eC (.int 30)))) (aNil))))) (eBin subD (eC (.int 3)) (eBin mulD (eC (.int 12)) (eBin powD (eC (.int 10)) (eC (.int 30))))))))))
def F_law (a : Ad) : FF := defF 13 (B_law a)
/-- the words of the errors -/
structure Era (a : Ad) : Prop where
  e_InvalidCopy : a.er a.InvalidCopy = some "copy"
  e_InvalidIndex : a.er a.InvalidIndex = some "index"
  e_InvalidLook : a.er a.InvalidLook = some "look"
  e_InvalidWedge : a.er a.InvalidWedge = some "wedge"
/-! ### what the top has written -/
structure Tx (K : PySem.W.Frag) (mg : Str → Option Value) (a : Ad) : Prop where
  d_is_within : DefAt K mg "is_within" ["value", "low", "high"] s_is_within a.is_within
  d_is_mark : DefAt K mg "is_mark" ["value"] s_is_mark a.is_mark
  d_is_right_wedge : DefAt K mg "is_right_wedge" ["value"] s_is_right_wedge a.is_right_wedge
  d_need_wedge : DefAt K mg "need_wedge" ["value"] s_need_wedge a.need_wedge
  d_need_index : DefAt K mg "need_index" ["wedge", "value"] s_need_index a.need_index
  d_need_copy : DefAt K mg "need_copy" ["value", "most"] s_need_copy a.need_copy
  d_angle_of : DefAt K mg "angle_of" ["place", "copy"] s_angle_of a.angle_of
  d_angle : DefAt K mg "angle" ["wedge", "index", "copy"] s_angle a.angle
  d_need_look : DefAt K mg "need_look" ["value"] s_need_look a.need_look
  d_copy_behind : DefAt K mg "copy_behind" ["look"] s_copy_behind a.copy_behind
  d_look_to : DefAt K mg "look_to" ["copy"] s_look_to a.look_to
  d_is_wedge : DefAt K mg "is_wedge" ["value"] s_is_wedge a.is_wedge
  d__law_source : DefAt K mg "_law_source" ["script", "k"] s__law_source a._law_source
  d__law_pick : DefAt K mg "_law_pick" ["source", "many"] s__law_pick a._law_pick
  d__law_chosen : DefAt K mg "_law_chosen" ["source", "things"] s__law_chosen a._law_chosen
  d__law_is_bool : DefAt K mg "_law_is_bool" ["told", "due"] s__law_is_bool a._law_is_bool
  d__law_any_value : DefAt K mg "_law_any_value" ["source", "deep"] s__law_any_value a._law_any_value
  d__law_variant : DefAt K mg "_law_variant" ["source", "value", "deep"] s__law_variant a._law_variant
  d__law_drawn_wedge : DefAt K mg "_law_drawn_wedge" ["source", "least", "most"] s__law_drawn_wedge a._law_drawn_wedge
  d__law_unfolded : DefAt K mg "_law_unfolded" ["place", "far"] s__law_unfolded a._law_unfolded
  d__law_wide : DefAt K mg "_law_wide" ["value", "low", "high"] s__law_wide a._law_wide
  d__law_whole : DefAt K mg "_law_whole" ["value", "low", "high"] s__law_whole a._law_whole
  d__law_good_mark : DefAt K mg "_law_good_mark" ["value"] s__law_good_mark a._law_good_mark
  d__law_good : DefAt K mg "_law_good" ["value"] s__law_good a._law_good
  d__law_went : DefAt K mg "_law_went" ["look"] s__law_went a._law_went
  d__law_error : DefAt K mg "_law_error" ["e"] s__law_error a._law_error
  d__law_refused : DefAt K mg "_law_refused" ["call"] s__law_refused a._law_refused
  d__law_by_one : DefAt K mg "_law_by_one" ["call", "one"] s__law_by_one a._law_by_one
  d__law_by_three : DefAt K mg "_law_by_three" ["call", "one", "other", "third"] s__law_by_three a._law_by_three
  d__law_refusals : DefAt K mg "_law_refusals" ["wedge", "index"] s__law_refusals a._law_refusals
  d_law : DefAt K mg "law" ["script"] s_law a.law
  x_InvalidCopy : ExcAt K mg "InvalidCopy" a.InvalidCopy
  x_InvalidIndex : ExcAt K mg "InvalidIndex" a.InvalidIndex
  x_InvalidLook : ExcAt K mg "InvalidLook" a.InvalidLook
  x_InvalidWedge : ExcAt K mg "InvalidWedge" a.InvalidWedge
  k_InvalidColour : mg "InvalidColour" = some (.ref a.InvalidColour)
  k_InvalidCopy : mg "InvalidCopy" = some (.ref a.InvalidCopy)
  k_InvalidDeed : mg "InvalidDeed" = some (.ref a.InvalidDeed)
  k_InvalidForm : mg "InvalidForm" = some (.ref a.InvalidForm)
  k_InvalidIndex : mg "InvalidIndex" = some (.ref a.InvalidIndex)
  k_InvalidLook : mg "InvalidLook" = some (.ref a.InvalidLook)
  k_InvalidNumber : mg "InvalidNumber" = some (.ref a.InvalidNumber)
  k_InvalidSeen : mg "InvalidSeen" = some (.ref a.InvalidSeen)
  k_InvalidText : mg "InvalidText" = some (.ref a.InvalidText)
  k_InvalidWedge : mg "InvalidWedge" = some (.ref a.InvalidWedge)
  k_NothingToUndo : mg "NothingToUndo" = some (.ref a.NothingToUndo)
  k_TooMany : mg "TooMany" = some (.ref a.TooMany)
  k_WedgeError : mg "WedgeError" = some (.ref a.WedgeError)
  er : a.er = erK K a.WedgeError (ws a)
  era : Era a
  m__law_by_one : CodeOf K a._law_by_one a.c__law_by_one
  m__law_by_three : CodeOf K a._law_by_three a.c__law_by_three
  nd : ((Tl a).map (·.1)).Nodup
  c_MOST_COLOUR : ∃ t, mg "MOST_COLOUR" = some (.int (2) t)
  c_MOST_LOOK : ∃ t, mg "MOST_LOOK" = some (.int (60) t)
  c_MOST_MARKS : ∃ t, mg "MOST_MARKS" = some (.int (5) t)
  c_MOST_NUMBER : ∃ t, mg "MOST_NUMBER" = some (.int (1000000000000000000000000000000) t)
  c_MOST_PART : ∃ t, mg "MOST_PART" = some (.int (6) t)
  c_SIDE : ∃ t, mg "SIDE" = some (.int (12) t)
  n_abs : mg "abs" = none
  n_all : mg "all" = none
  n_bool : mg "bool" = none
  n_enumerate : mg "enumerate" = none
  n_int : mg "int" = none
  n_isinstance : mg "isinstance" = none
  n_len : mg "len" = none
  n_list : mg "list" = none
  n_max : mg "max" = none
  n_min : mg "min" = none
  n_range : mg "range" = none
  n_set : mg "set" = none
  n_sorted : mg "sorted" = none
  n_str : mg "str" = none
  n_tuple : mg "tuple" = none
theorem err_F (a : Ad) (kit : Addr → Option Bool) (ea : Addr) (μ : Mu) (h : ∀ w ∈ ws a, ∃ b, kit w.2 = some b) : defF 4 (B__law_error a kit ea) [.val (.fn ea 0)] μ = .ok (.val (.str (Txt.join " " (((ws a).filter fun w => kit w.2 == some true).map (·.1))))) μ := by
  have h' := h
  simp only [ws, List.forall_mem_cons] at h'
  obtain ⟨⟨b0, h0⟩, ⟨b1, h1⟩, ⟨b2, h2⟩, ⟨b3, h3⟩, ⟨b4, h4⟩, ⟨b5, h5⟩, ⟨b6, h6⟩, ⟨b7, h7⟩, ⟨b8, h8⟩, ⟨b9, h9⟩, ⟨b10, h10⟩, ⟨b11, h11⟩, _⟩ := h'
  try dsimp only at h0 h1 h2 h3 h4 h5 h6 h7 h8 h9 h10 h11
  have e : (ws a).map (encW kit) = [.tup [.str "wedge", .bl b0], .tup [.str "number", .bl b1], .tup [.str "index", .bl b2], .tup [.str "copy", .bl b3], .tup [.str "look", .bl b4], .tup [.str "colour", .bl b5], .tup [.str "form", .bl b6], .tup [.str "seen", .bl b7], .tup [.str "deed", .bl b8], .tup [.str "text", .bl b9], .tup [.str "undo", .bl b10], .tup [.str "many", .bl b11]] := by
    simp [ws, encW, h0, h1, h2, h3, h4, h5, h6, h7, h8, h9, h10, h11]
  unfold defF B__law_error
  have l4 : 4 ≤ sizeLine := le_line (by decide)
  have l6 : 6 ≤ sizeLine := le_line (by decide)
  have l8 : 8 ≤ sizeLine := le_line (by decide)
  have l10 : 10 ≤ sizeLine := le_line (by decide)
  have l12 : 12 ≤ sizeLine := le_line (by decide)
  simp [isE_s h0, isE_s h1, isE_s h2, isE_s h3, isE_s h4, isE_s h5, isE_s h6, isE_s h7, isE_s h8, isE_s h9, isE_s h10, isE_s h11, l4, l6, l8, l10, l12, -joinD_s]
  rw [← e, err_comp (ws a) kit h (by simp [ws])]
  simp [-joinD_s]
  rw [err_join (ws a) _ _ (by show (List.map (fun x : Str × Addr => x.1.length) (ws a)).sum + 12 * 1 ≤ 16777216; simp [ws]; decide)]
  simp

section
variable {P : Program} {w : World} {K : PySem.W.Frag} {mg : Str → Option Value} {base : Heap} {a : Ad}
theorem sc_is_within : FnScope N_is_within ["value", "low", "high"] (defScope s_is_within) := ⟨rfl, rfl, rfl, by decide +kernel, rfl, by decide +kernel, by decide +kernel⟩
theorem ok_is_within (T : Tx K mg a) (B : Bx mg base a) : Got P w K mg base (Tl a) 1 "is_within" (a.is_within) ["value", "low", "high"] (F_is_within a) :=
  got T.d_is_within sc_is_within fun cdv A outer s H E B0 n hr =>
    dss_one (ds_ret (de_and (de_callB call_isi c_isi (by rfl) T.n_isinstance PyProof.Rows.boot_isinstance (da_cons (de_var (pv 0)) (da_cons (de_c (pe_bltn (by rfl) T.n_int PyProof.Rows.boot_int (by rfl)) (fun _ _ => .ty _)) (da_nil)))) (de_and (de_not (de_callB call_isi c_isi (by rfl) T.n_isinstance PyProof.Rows.boot_isinstance (da_cons (de_var (pv 0)) (da_cons (de_c (pe_bltn (by rfl) T.n_bool PyProof.Rows.boot_bool (by rfl)) (fun _ _ => .ty _)) (da_nil))))) (de_one (de_chain op_le op_le b0_le b0_le (de_var (pv 1)) (de_var (pv 0)) (de_var (pv 2)))))))
theorem sc_is_mark : FnScope N_is_mark ["value"] (defScope s_is_mark) := ⟨rfl, rfl, rfl, by decide +kernel, rfl, by decide +kernel, by decide +kernel⟩
theorem ok_is_mark (T : Tx K mg a) (B : Bx mg base a) : Got P w K mg base (Tl a) 2 "is_mark" (a.is_mark) ["value"] (F_is_mark a) :=
  got T.d_is_mark sc_is_mark fun cdv A outer s H E B0 n hr =>
    dss_cons (ds_if (PW.pt (dw_or (dt_not (dt_val (de_callB call_isi c_isi (by rfl) T.n_isinstance PyProof.Rows.boot_isinstance (da_cons (de_var (pv 0)) (da_cons (de_c (pe_bltn (by rfl) T.n_tuple PyProof.Rows.boot_tuple (by rfl)) (fun _ _ => .ty _)) (da_nil)))))) (dw_or1 (dt_cmp (o_ne (by rfl) hr.units) b_ne (de_callB call_len c_len (by rfl) T.n_len PySem.boot_len (da_cons (de_var (pv 0)) (da_nil))) (de_int) (nomark _))))) (dss_one (ds_ret (de_bl))) (dss_nil)) (dss_one (ds_ret (de_and (de_got (c := ⟨K, Tl a, B0, n⟩) (ok_is_within T B) (by rfl) hr (by decide) (by rfl) (L2N.takes_of (by rfl) (by rfl) (by rfl) (by rfl)) (da_cons (de_ix (by rfl) (de_var (pv 0)) (de_int) (by intro _ _; rfl)) (da_cons (de_int) (da_cons (de_sub (de_globI (by rfl) T.c_SIDE) (de_int)) (da_nil))))) (de_one (de_got (c := ⟨K, Tl a, B0, n⟩) (ok_is_within T B) (by rfl) hr (by decide) (by rfl) (L2N.takes_of (by rfl) (by rfl) (by rfl) (by rfl)) (da_cons (de_ix (by rfl) (de_var (pv 0)) (de_int) (by intro _ _; rfl)) (da_cons (de_int) (da_cons (de_globI (by rfl) T.c_MOST_COLOUR) (da_nil)))))))))
theorem sc_is_right_wedge : FnScope N_is_right_wedge ["value"] (defScope s_is_right_wedge) := ⟨rfl, rfl, rfl, by decide +kernel, rfl, by decide +kernel, by decide +kernel⟩
theorem ok_is_right_wedge (T : Tx K mg a) (B : Bx mg base a) : Got P w K mg base (Tl a) 3 "is_right_wedge" (a.is_right_wedge) ["value"] (F_is_right_wedge a) :=
  got T.d_is_right_wedge sc_is_right_wedge fun cdv A outer s H E B0 n hr =>
    dss_cons (ds_if (PW.pt (dw_or (dt_not (dt_val (de_callB call_isi c_isi (by rfl) T.n_isinstance PyProof.Rows.boot_isinstance (da_cons (de_var (pv 0)) (da_cons (de_c (pe_bltn (by rfl) T.n_tuple PyProof.Rows.boot_tuple (by rfl)) (fun _ _ => .ty _)) (da_nil)))))) (dw_or (dt_cmp (o_ne (by rfl) hr.units) b_ne (de_callB call_len c_len (by rfl) T.n_len PySem.boot_len (da_cons (de_var (pv 0)) (da_nil))) (de_int) (nomark _)) (dw_or1 (dt_not (dt_val (de_got (c := ⟨K, Tl a, B0, n⟩) (ok_is_within T B) (by rfl) hr (by decide) (by rfl) (L2N.takes_of (by rfl) (by rfl) (by rfl) (by rfl)) (da_cons (de_ix (by rfl) (de_var (pv 0)) (de_int) (by intro _ _; rfl)) (da_cons (de_int) (da_cons (de_globI (by rfl) T.c_MOST_PART) (da_nil))))))))))) (dss_one (ds_ret (de_bl))) (dss_nil)) (dss_cons (ds_if (PW.pt (dw_or (dt_not (dt_val (de_got (c := ⟨K, Tl a, B0, n⟩) (ok_is_within T B) (by rfl) hr (by decide) (by rfl) (L2N.takes_of (by rfl) (by rfl) (by rfl) (by rfl)) (da_cons (de_ix (by rfl) (de_var (pv 0)) (de_int) (by intro _ _; rfl)) (da_cons (de_int) (da_cons (de_sub (de_globI (by rfl) T.c_SIDE) (de_int)) (da_nil))))))) (dw_or (dt_not (dt_val (de_callB call_isi c_isi (by rfl) T.n_isinstance PyProof.Rows.boot_isinstance (da_cons (de_ix (by rfl) (de_var (pv 0)) (de_int) (by intro _ _; rfl)) (da_cons (de_c (pe_bltn (by rfl) T.n_tuple PyProof.Rows.boot_tuple (by rfl)) (fun _ _ => .ty _)) (da_nil)))))) (dw_or1 (dt_cmp op_gt b_gt (de_callB call_len c_len (by rfl) T.n_len PySem.boot_len (da_cons (de_ix (by rfl) (de_var (pv 0)) (de_int) (by intro _ _; rfl)) (da_nil))) (de_globI (by rfl) T.c_MOST_MARKS) (nomark _)))))) (dss_one (ds_ret (de_bl))) (dss_nil)) (dss_cons (ds_for (passes_of (by rfl)) (by rfl) (dl_enT (by rfl) (by rfl) T.n_enumerate (da_cons (de_ix (by rfl) (de_var (pv 0)) (de_int) (by intro _ _; rfl)) (da_nil))) (pg_tup (n := 2) (by rfl) (pgs_cons (pg_name (i := 1) sc_is_right_wedge.nd (by rfl) (Or.inl rfl)) (pgs_cons (pg_name (i := 2) sc_is_right_wedge.nd (by rfl) (Or.inl rfl)) (pgs_nil)))) (g_tup (gs_cons (g_name) (gs_cons (g_name) (gs_nil)))) (dss_one (ds_if (PW.pt (dw_or (dt_not (dt_val (de_got (c := ⟨K, Tl a, B0, n⟩) (ok_is_mark T B) (by rfl) hr (by decide) (by rfl) (L2N.takes_of (by rfl) (by rfl) (by rfl) (by rfl)) (da_cons (de_var (pv 2)) (da_nil))))) (dw_or1 (PW.pt (dw_and (dt_cmp op_gt b_gt (de_var (pv 1)) (de_int) (nomark _)) (dw_and1 (dt_cmp op_le b_le (de_ix (by rfl) (de_var (pv 2)) (de_int) (by intro _ _; rfl)) (de_ix (by rfl) (de_ix (by rfl) (de_ix (by rfl) (de_var (pv 0)) (de_int) (by intro _ _; rfl)) (de_sub (de_var (pv 1)) (de_int)) (by intro _ _; rfl)) (de_int) (by intro _ _; rfl)) (nomark _)))))))) (dss_one (ds_ret (de_bl))) (dss_nil)))) (dss_one (ds_ret (de_bl)))))
theorem sc_need_wedge : FnScope N_need_wedge ["value"] (defScope s_need_wedge) := ⟨rfl, rfl, rfl, by decide +kernel, rfl, by decide +kernel, by decide +kernel⟩
theorem ok_need_wedge (T : Tx K mg a) (B : Bx mg base a) : Got P w K mg base (Tl a) 4 "need_wedge" (a.need_wedge) ["value"] (F_need_wedge a) :=
  got T.d_need_wedge sc_need_wedge fun cdv A outer s H E B0 n hr =>
    dss_one (ds_if (dt_not (dt_val (de_got (c := ⟨K, Tl a, B0, n⟩) (ok_is_right_wedge T B) (by rfl) hr (by decide) (by rfl) (L2N.takes_of (by rfl) (by rfl) (by rfl) (by rfl)) (da_cons (de_var (pv 0)) (da_nil))))) (dss_one (ds_raiseX T.x_InvalidWedge (by rfl) (L2N.takes_of (by rfl) (by rfl) (by rfl) (by rfl)) (by rfl))) (dss_nil))
theorem sc_need_index : FnScope N_need_index ["wedge", "value"] (defScope s_need_index) := ⟨rfl, rfl, rfl, by decide +kernel, rfl, by decide +kernel, by decide +kernel⟩
theorem ok_need_index (T : Tx K mg a) (B : Bx mg base a) : Got P w K mg base (Tl a) 2 "need_index" (a.need_index) ["wedge", "value"] (F_need_index a) :=
  got T.d_need_index sc_need_index fun cdv A outer s H E B0 n hr =>
    dss_one (ds_if (dt_not (dt_val (de_got (c := ⟨K, Tl a, B0, n⟩) (ok_is_within T B) (by rfl) hr (by decide) (by rfl) (L2N.takes_of (by rfl) (by rfl) (by rfl) (by rfl)) (da_cons (de_var (pv 1)) (da_cons (de_int) (da_cons (de_sub (de_callB call_len c_len (by rfl) T.n_len PySem.boot_len (da_cons (de_ix (by rfl) (de_var (pv 0)) (de_int) (by intro _ _; rfl)) (da_nil))) (de_int)) (da_nil))))))) (dss_one (ds_raiseX T.x_InvalidIndex (by rfl) (L2N.takes_of (by rfl) (by rfl) (by rfl) (by rfl)) (by rfl))) (dss_nil))
theorem sc_need_copy : FnScope N_need_copy ["value", "most"] (defScope s_need_copy) := ⟨rfl, rfl, rfl, by decide +kernel, rfl, by decide +kernel, by decide +kernel⟩
theorem ok_need_copy (T : Tx K mg a) (B : Bx mg base a) : Got P w K mg base (Tl a) 2 "need_copy" (a.need_copy) ["value", "most"] (F_need_copy a) :=
  got T.d_need_copy sc_need_copy fun cdv A outer s H E B0 n hr =>
    dss_one (ds_if (dt_not (dt_val (de_got (c := ⟨K, Tl a, B0, n⟩) (ok_is_within T B) (by rfl) hr (by decide) (by rfl) (L2N.takes_of (by rfl) (by rfl) (by rfl) (by rfl)) (da_cons (de_var (pv 0)) (da_cons (de_neg (de_var (pv 1))) (da_cons (de_var (pv 1)) (da_nil))))))) (dss_one (ds_raiseX T.x_InvalidCopy (by rfl) (L2N.takes_of (by rfl) (by rfl) (by rfl) (by rfl)) (by rfl))) (dss_nil))
theorem sc_angle_of : FnScope N_angle_of ["place", "copy"] (defScope s_angle_of) := ⟨rfl, rfl, rfl, by decide +kernel, rfl, by decide +kernel, by decide +kernel⟩
theorem ok_angle_of (T : Tx K mg a) (B : Bx mg base a) : Got P w K mg base (Tl a) 1 "angle_of" (a.angle_of) ["place", "copy"] (F_angle_of a) :=
  got T.d_angle_of sc_angle_of fun cdv A outer s H E B0 n hr =>
    dss_one (ds_ret (de_add (by rfl) (de_mul (de_globI (by rfl) T.c_SIDE) (de_var (pv 1))) (de_if (dt_cmp (o_eq (by rfl) hr.units) b_eq (de_mod (de_var (pv 1)) (de_int)) (de_int) (nomark _)) (de_var (pv 0)) (de_sub (de_globI (by rfl) T.c_SIDE) (de_var (pv 0))))))
theorem sc_angle : FnScope N_angle ["wedge", "index", "copy"] (defScope s_angle) := ⟨rfl, rfl, rfl, by decide +kernel, rfl, by decide +kernel, by decide +kernel⟩
theorem ok_angle (T : Tx K mg a) (B : Bx mg base a) : Got P w K mg base (Tl a) 5 "angle" (a.angle) ["wedge", "index", "copy"] (F_angle a) :=
  got T.d_angle sc_angle fun cdv A outer s H E B0 n hr =>
    dss_cons (ds_expr (de_got (c := ⟨K, Tl a, B0, n⟩) (ok_need_wedge T B) (by rfl) hr (by decide) (by rfl) (L2N.takes_of (by rfl) (by rfl) (by rfl) (by rfl)) (da_cons (de_var (pv 0)) (da_nil)))) (dss_cons (ds_expr (de_got (c := ⟨K, Tl a, B0, n⟩) (ok_need_index T B) (by rfl) hr (by decide) (by rfl) (L2N.takes_of (by rfl) (by rfl) (by rfl) (by rfl)) (da_cons (de_var (pv 0)) (da_cons (de_var (pv 1)) (da_nil))))) (dss_cons (ds_expr (de_got (c := ⟨K, Tl a, B0, n⟩) (ok_need_copy T B) (by rfl) hr (by decide) (by rfl) (L2N.takes_of (by rfl) (by rfl) (by rfl) (by rfl)) (da_cons (de_var (pv 2)) (da_cons (de_globI (by rfl) T.c_MOST_NUMBER) (da_nil))))) (dss_one (ds_ret (de_got (c := ⟨K, Tl a, B0, n⟩) (ok_angle_of T B) (by rfl) hr (by decide) (by rfl) (L2N.takes_of (by rfl) (by rfl) (by rfl) (by rfl)) (da_cons (de_ix (by rfl) (de_ix (by rfl) (de_ix (by rfl) (de_var (pv 0)) (de_int) (by intro _ _; rfl)) (de_var (pv 1)) (by intro _ _; rfl)) (de_int) (by intro _ _; rfl)) (da_cons (de_var (pv 2)) (da_nil))))))))
theorem sc_need_look : FnScope N_need_look ["value"] (defScope s_need_look) := ⟨rfl, rfl, rfl, by decide +kernel, rfl, by decide +kernel, by decide +kernel⟩
theorem ok_need_look (T : Tx K mg a) (B : Bx mg base a) : Got P w K mg base (Tl a) 1 "need_look" (a.need_look) ["value"] (F_need_look a) :=
  got T.d_need_look sc_need_look fun cdv A outer s H E B0 n hr =>
    dss_one (ds_if (PW.pt (dw_or (dt_not (dt_val (de_callB call_isi c_isi (by rfl) T.n_isinstance PyProof.Rows.boot_isinstance (da_cons (de_var (pv 0)) (da_cons (de_c (pe_bltn (by rfl) T.n_str PyProof.Rows.boot_str (by rfl)) (fun _ _ => .ty _)) (da_nil)))))) (dw_or (dt_cmp op_gt b_gt (de_callB call_len c_len (by rfl) T.n_len PySem.boot_len (da_cons (de_var (pv 0)) (da_nil))) (de_globI (by rfl) T.c_MOST_LOOK) (nomark _)) (dw_or1 (dt_not (dt_val (de_callB (cr_all rfl) c_all (by rfl) T.n_all PyProof.Rows.boot_all (da_cons (de_comp (own := [("letter", 1)]) (by rfl) sc_need_look.nd (dl_str (de_var (pv 0))) (blkOk_by (own := [("letter", 1)]) (N := N_need_look) (sc := (defScope s_need_look)) (by decide +kernel)) (g_name) (by decide) (fun _ _ _ _ _ => pg_name (i := 1) sc_need_look.nd (by rfl) (Or.inl rfl)) (fun _ _ _ _ _ => dts_nil) (fun _ _ _ _ _ => de_cmpR (o_in (by rfl) hr.u65) b_in (de_var (pv 1)) (de_str) (by rfl))) (da_nil))))))))) (dss_one (ds_raiseX T.x_InvalidLook (by rfl) (L2N.takes_of (by rfl) (by rfl) (by rfl) (by rfl)) (by rfl))) (dss_nil))
theorem sc_copy_behind : FnScope N_copy_behind ["look"] (defScope s_copy_behind) := ⟨rfl, rfl, rfl, by decide +kernel, rfl, by decide +kernel, by decide +kernel⟩
theorem ok_copy_behind (T : Tx K mg a) (B : Bx mg base a) : Got P w K mg base (Tl a) 2 "copy_behind" (a.copy_behind) ["look"] (F_copy_behind a) :=
  got T.d_copy_behind sc_copy_behind fun cdv A outer s H E B0 n hr =>
    dss_cons (ds_expr (de_got (c := ⟨K, Tl a, B0, n⟩) (ok_need_look T B) (by rfl) hr (by decide) (by rfl) (L2N.takes_of (by rfl) (by rfl) (by rfl) (by rfl)) (da_cons (de_var (pv 0)) (da_nil)))) (dss_cons (ds_set (i := 1) sc_copy_behind.nd (by rfl) (Or.inl rfl) (de_int)) (dss_cons (ds_for (passes_of (by rfl)) (by rfl) (dl_str (de_var (pv 0))) (pg_name (i := 2) sc_copy_behind.nd (by rfl) (Or.inl rfl)) (g_name) (dss_one (ds_set (i := 1) sc_copy_behind.nd (by rfl) (Or.inl rfl) (de_add (by rfl) (de_var (pv 1)) (de_if (dt_cmp (o_eq (by rfl) hr.units) b_eq (de_cmpR (o_eq (by rfl) hr.units) b_eq (de_var (pv 2)) (de_str) (nomark _)) (de_cmpR (o_eq (by rfl) hr.units) b_eq (de_mod (de_var (pv 1)) (de_int)) (de_int) (nomark _)) (nomark _)) (de_int) (de_neg (de_int))))))) (dss_one (ds_ret (de_var (pv 1))))))
theorem sc_look_to : FnScope N_look_to ["copy"] (defScope s_look_to) := ⟨rfl, rfl, rfl, by decide +kernel, rfl, by decide +kernel, by decide +kernel⟩
theorem ok_look_to (T : Tx K mg a) (B : Bx mg base a) : Got P w K mg base (Tl a) 3 "look_to" (a.look_to) ["copy"] (F_look_to a) :=
  got T.d_look_to sc_look_to fun cdv A outer s H E B0 n hr =>
    dss_cons (ds_expr (de_got (c := ⟨K, Tl a, B0, n⟩) (ok_need_copy T B) (by rfl) hr (by decide) (by rfl) (L2N.takes_of (by rfl) (by rfl) (by rfl) (by rfl)) (da_cons (de_var (pv 0)) (da_cons (de_globI (by rfl) T.c_MOST_LOOK) (da_nil))))) (dss_cons (ds_set (i := 1) sc_look_to.nd (by rfl) (Or.inr rfl) (de_if (dt_cmp op_gt b_gt (de_var (pv 0)) (de_int) (nomark _)) (de_str) (de_str))) (dss_one (ds_ret (de_join (de_str) (de_comp (own := [("at", 2)]) (by rfl) sc_look_to.nd (dl_rng1 (by rfl) T.n_range (da_cons (de_callB call_abs c_abs (by rfl) T.n_abs PyProof.Rows.boot_abs (da_cons (de_var (pv 0)) (da_nil))) (da_nil))) (blkOk_by (own := [("at", 2)]) (N := N_look_to) (sc := (defScope s_look_to)) (by decide +kernel)) (g_name) (by decide) (fun _ _ _ _ _ => pg_name (i := 2) sc_look_to.nd (by rfl) (Or.inl rfl)) (fun _ _ _ _ _ => dts_nil) (fun _ _ _ _ _ => de_ix (by rfl) (de_var (pv 1)) (de_mod (de_var (pv 2)) (de_int)) (by intro _ _; rfl))) (by rfl)))))
theorem fv_ok (T : Tx K mg a) (B : Bx mg base a) : TabOk P w K mg base (Tl a) 5 (Fv a) := ⟨fun j f n F h => by
  unfold Fv at h
  split at h
  · cases h; exact (ok_angle T B).tab (by decide)
  · cases h; exact (ok_copy_behind T B).tab (by decide)
  · cases h; exact (ok_look_to T B).tab (by decide)
  · cases h⟩
theorem sc_is_wedge : FnScope N_is_wedge ["value"] (defScope s_is_wedge) := ⟨rfl, rfl, rfl, by decide +kernel, rfl, by decide +kernel, by decide +kernel⟩
theorem ok_is_wedge (T : Tx K mg a) (B : Bx mg base a) : Got P w K mg base (Tl a) 4 "is_wedge" (a.is_wedge) ["value"] (F_is_wedge a) :=
  got T.d_is_wedge sc_is_wedge fun cdv A outer s H E B0 n hr =>
    dss_one (ds_ret (de_got (c := ⟨K, Tl a, B0, n⟩) (ok_is_right_wedge T B) (by rfl) hr (by decide) (by rfl) (L2N.takes_of (by rfl) (by rfl) (by rfl) (by rfl)) (da_cons (de_var (pv 0)) (da_nil))))
theorem sc__law_source : FnScope N__law_source ["script", "k"] (defScope s__law_source) := ⟨rfl, rfl, rfl, by decide +kernel, rfl, by decide +kernel, by decide +kernel⟩
theorem ok__law_source (T : Tx K mg a) (B : Bx mg base a) : Got P w K mg base (Tl a) 1 "_law_source" (a._law_source) ["script", "k"] (F__law_source a) :=
  got T.d__law_source sc__law_source fun cdv A outer s H E B0 n hr =>
    dss_cons (ds_set (i := 2) sc__law_source.nd (by rfl) (Or.inl rfl) (de_int)) (dss_cons (ds_if (dt_cmp op_gt b_gt (de_callB call_len c_len (by rfl) T.n_len PySem.boot_len (da_cons (de_var (pv 0)) (da_nil))) (de_var (pv 1)) (nomark _)) (dss_one (ds_set (i := 2) sc__law_source.nd (by rfl) (Or.inl rfl) (de_callTy call_int1 c_int (by rfl) T.n_int PyProof.Rows.boot_int (da_cons (de_ix (by rfl) (de_var (pv 0)) (de_var (pv 1)) (by intro _ _; rfl)) (da_nil))))) (dss_nil)) (dss_cons (ds_set (i := 3) sc__law_source.nd (by rfl) (Or.inl rfl) (de_mod (de_add (by rfl) (de_add (by rfl) (de_mul (de_var (pv 2)) (de_int)) (de_mul (de_int) (de_var (pv 1)))) (de_int)) (de_int))) (dss_cons (ds_set (i := 3) sc__law_source.nd (by rfl) (Or.inl rfl) (de_add (by rfl) (de_add (by rfl) (de_mod (de_mul (de_var (pv 3)) (de_var (pv 3))) (de_int)) (de_mul (de_int) (de_var (pv 1)))) (de_int))) (dss_one (ds_ret (de_lst (da_cons (de_if (dt_cmp op_ge b_ge (de_var (pv 2)) (de_pow (de_int) (de_int)) (nomark _)) (de_var (pv 2)) (de_int)) (da_cons (de_var (pv 3)) (da_nil)))))))))
theorem sc__law_pick : FnScope N__law_pick ["source", "many"] (defScope s__law_pick) := ⟨rfl, rfl, rfl, by decide +kernel, rfl, by decide +kernel, by decide +kernel⟩
theorem ok__law_pick (T : Tx K mg a) (B : Bx mg base a) : Got P w K mg base (Tl a) 1 "_law_pick" (a._law_pick) ["source", "many"] (F__law_pick a) :=
  got T.d__law_pick sc__law_pick fun cdv A outer s H E B0 n hr =>
    dss_cons (ds_if (dt_cmp op_gt b_gt (de_ix (by rfl) (de_var (pv 0)) (de_int) (by intro _ _; rfl)) (de_int) (nomark _)) (dss_cons (ds_set (i := 2) sc__law_pick.nd (by rfl) (Or.inl rfl) (de_mod (de_callTy call_int1 c_int (by rfl) T.n_int PyProof.Rows.boot_int (da_cons (de_ix (by rfl) (de_var (pv 0)) (de_int) (by intro _ _; rfl)) (da_nil))) (de_var (pv 1)))) (dss_cons (ds_putL (de_var (pv 0)) (de_int) (de_div (de_callTy call_int1 c_int (by rfl) T.n_int PyProof.Rows.boot_int (da_cons (de_ix (by rfl) (de_var (pv 0)) (de_int) (by intro _ _; rfl)) (da_nil))) (de_var (pv 1)))) (dss_one (ds_ret (de_var (pv 2)))))) (dss_nil)) (dss_cons (ds_putL (de_var (pv 0)) (de_int) (de_mod (de_callTy call_int1 c_int (by rfl) T.n_int PyProof.Rows.boot_int (da_cons (de_add (by rfl) (de_mul (de_ix (by rfl) (de_var (pv 0)) (de_int) (by intro _ _; rfl)) (de_int)) (de_int)) (da_nil))) (de_int))) (dss_one (ds_ret (de_mod (de_div (de_mod (de_callTy call_int1 c_int (by rfl) T.n_int PyProof.Rows.boot_int (da_cons (de_mul (de_ix (by rfl) (de_var (pv 0)) (de_int) (by intro _ _; rfl)) (de_ix (by rfl) (de_var (pv 0)) (de_int) (by intro _ _; rfl))) (da_nil))) (de_int)) (de_int)) (de_var (pv 1))))))
theorem sc__law_chosen : FnScope N__law_chosen ["source", "things"] (defScope s__law_chosen) := ⟨rfl, rfl, rfl, by decide +kernel, rfl, by decide +kernel, by decide +kernel⟩
theorem ok__law_chosen (T : Tx K mg a) (B : Bx mg base a) : Got P w K mg base (Tl a) 2 "_law_chosen" (a._law_chosen) ["source", "things"] (F__law_chosen a) :=
  got T.d__law_chosen sc__law_chosen fun cdv A outer s H E B0 n hr =>
    dss_one (ds_ret (de_ix (by rfl) (de_var (pv 1)) (de_got (c := ⟨K, Tl a, B0, n⟩) (ok__law_pick T B) (by rfl) hr (by decide) (by rfl) (L2N.takes_of (by rfl) (by rfl) (by rfl) (by rfl)) (da_cons (de_var (pv 0)) (da_cons (de_callB call_len c_len (by rfl) T.n_len PySem.boot_len (da_cons (de_var (pv 1)) (da_nil))) (da_nil)))) (by intro _ _; rfl)))
theorem sc__law_is_bool : FnScope N__law_is_bool ["told", "due"] (defScope s__law_is_bool) := ⟨rfl, rfl, rfl, by decide +kernel, rfl, by decide +kernel, by decide +kernel⟩
theorem ok__law_is_bool (T : Tx K mg a) (B : Bx mg base a) : Got P w K mg base (Tl a) 1 "_law_is_bool" (a._law_is_bool) ["told", "due"] (F__law_is_bool a) :=
  got T.d__law_is_bool sc__law_is_bool fun cdv A outer s H E B0 n hr =>
    dss_one (ds_ret (de_and (de_callB call_isi c_isi (by rfl) T.n_isinstance PyProof.Rows.boot_isinstance (da_cons (de_var (pv 0)) (da_cons (de_c (pe_bltn (by rfl) T.n_bool PyProof.Rows.boot_bool (by rfl)) (fun _ _ => .ty _)) (da_nil)))) (de_one (de_cmpR (o_eq (by rfl) hr.units) b_eq (de_var (pv 0)) (de_var (pv 1)) (nomark _)))))
theorem sc__law_any_value : FnScope N__law_any_value ["source", "deep"] (defScope s__law_any_value) := ⟨rfl, rfl, rfl, by decide +kernel, rfl, by decide +kernel, by decide +kernel⟩
theorem oks__law_any_value (T : Tx K mg a) (B : Bx mg base a) (k : Nat) (RK : Got P w K mg base (Tl a) (3 + k) "_law_any_value" (a._law_any_value) ["source", "deep"] (R__law_any_value a k)) : Got P w K mg base (Tl a) (3 + k + 1) "_law_any_value" (a._law_any_value) ["source", "deep"] (defF 6 (B__law_any_value a (R__law_any_value a k))) :=
  got T.d__law_any_value sc__law_any_value fun cdv A outer s H E B0 n hr =>
    dss_cons (ds_set (i := 2) sc__law_any_value.nd (by rfl) (Or.inl rfl) (de_lst (da_cons (de_non) (da_cons (de_bl) (da_cons (de_bl) (da_cons (de_int) (da_cons (de_int) (da_cons (de_int) (da_cons (de_neg (de_int)) (da_cons (de_int) (da_cons (de_str) (da_cons (de_str) (da_cons (de_tup (da_nil)) (da_cons (de_lst (da_nil)) (da_cons (de_tup (da_cons (de_int) (da_cons (de_int) (da_nil)))) (da_cons (de_tup (da_cons (de_int) (da_cons (de_int) (da_cons (de_tup (da_nil)) (da_nil))))) (da_nil))))))))))))))))) (dss_cons (ds_set (i := 3) sc__law_any_value.nd (by rfl) (Or.inl rfl) (de_got (c := ⟨K, Tl a, B0, n⟩) (ok__law_pick T B) (by rfl) hr (Nat.le_trans (by decide) (Nat.le_add_right 3 k)) (by rfl) (L2N.takes_of (by rfl) (by rfl) (by rfl) (by rfl)) (da_cons (de_var (pv 0)) (da_cons (de_int) (da_nil))))) (dss_cons (ds_if (PW.pt (dw_or (dt_cmp op_lt b_lt (de_var (pv 1)) (de_int) (nomark _)) (dw_or1 (dt_cmp op_lt b_lt (de_var (pv 3)) (de_int) (nomark _))))) (dss_one (ds_ret (de_got (c := ⟨K, Tl a, B0, n⟩) (ok__law_chosen T B) (by rfl) hr (Nat.le_trans (by decide) (Nat.le_add_right 3 k)) (by rfl) (L2N.takes_of (by rfl) (by rfl) (by rfl) (by rfl)) (da_cons (de_var (pv 0)) (da_cons (de_var (pv 2)) (da_nil)))))) (dss_nil)) (dss_cons (ds_setLc (own := [("turn", 5)]) (by rfl) sc__law_any_value.nd (by rfl) (by rfl) (dl_rng1 (by rfl) T.n_range (da_cons (de_got (c := ⟨K, Tl a, B0, n⟩) (ok__law_pick T B) (by rfl) hr (Nat.le_trans (by decide) (Nat.le_add_right 3 k)) (by rfl) (L2N.takes_of (by rfl) (by rfl) (by rfl) (by rfl)) (da_cons (de_var (pv 0)) (da_cons (de_int) (da_nil)))) (da_nil))) (blkOk_by (own := [("turn", 5)]) (N := N__law_any_value) (sc := (defScope s__law_any_value)) (by decide +kernel)) (g_name) (by decide) (fun _ _ _ _ _ => pg_name (i := 5) sc__law_any_value.nd (by rfl) (Or.inl rfl)) (fun _ _ _ _ _ => dts_nil) (fun _ _ _ _ _ => de_got (c := ⟨K, Tl a, B0, n⟩) (ps := ["source", "deep"]) (G := R__law_any_value a k) RK (by rfl) hr (Nat.le_refl _) (by rfl) takesN (da_cons (de_var (pv 0)) (da_cons (de_sub (de_var (pv 1)) (de_int)) (da_nil))))) (dss_one (ds_ret (de_if (dt_cmp (o_eq (by rfl) hr.units) b_eq (de_var (pv 3)) (de_int) (nomark _)) (de_var (pv 4)) (de_callTy call_tuple_of c_tuple (by rfl) T.n_tuple PyProof.Rows.boot_tuple (da_cons (de_var (pv 4)) (da_nil)))))))))
theorem okr__law_any_value (T : Tx K mg a) (B : Bx mg base a) : ∀ k : Nat, Got P w K mg base (Tl a) (3 + k) "_law_any_value" (a._law_any_value) ["source", "deep"] (R__law_any_value a k)
  | 0 => got_bad T.d__law_any_value
  | k + 1 => oks__law_any_value T B k (okr__law_any_value T B k)
theorem ok__law_any_value (T : Tx K mg a) (B : Bx mg base a) : Got P w K mg base (Tl a) 9 "_law_any_value" (a._law_any_value) ["source", "deep"] (F__law_any_value a) := okr__law_any_value T B 6
theorem sc__law_variant : FnScope N__law_variant ["source", "value", "deep"] (defScope s__law_variant) := ⟨rfl, rfl, rfl, by decide +kernel, rfl, by decide +kernel, by decide +kernel⟩
theorem oks__law_variant (T : Tx K mg a) (B : Bx mg base a) (k : Nat) (RK : Got P w K mg base (Tl a) (10 + k) "_law_variant" (a._law_variant) ["source", "value", "deep"] (R__law_variant a k)) : Got P w K mg base (Tl a) (10 + k + 1) "_law_variant" (a._law_variant) ["source", "value", "deep"] (defF 8 (B__law_variant a (R__law_variant a k))) :=
  got T.d__law_variant sc__law_variant fun cdv A outer s H E B0 n hr =>
    dss_cons (ds_new (i := 3) sc__law_variant.nd (by rfl) (Or.inl rfl) (de_callTy call_list_of c_list (by rfl) T.n_list PyProof.Rows.boot_list (da_cons (de_var (pv 1)) (da_nil)))) (dss_cons (ds_if (dt_cmp (o_eq (by rfl) hr.units) b_eq (de_var (pv 3)) (de_lst (da_nil)) (nomark _)) (dss_one (ds_ret (de_tup (da_cons (de_got (c := ⟨K, Tl a, B0, n⟩) (ok__law_any_value T B) (by rfl) hr (Nat.le_trans (by decide) (Nat.le_add_right 10 k)) (by rfl) (L2N.takes_of (by rfl) (by rfl) (by rfl) (by rfl)) (da_cons (de_var (pv 0)) (da_cons (de_int) (da_nil)))) (da_nil))))) (dss_nil)) (dss_cons (ds_par (by rfl) sc__law_variant.nd (by rfl) (by rfl) (by decide) (by rfl) (by rfl) (de_got (c := ⟨K, Tl a, B0, n⟩) (ok__law_pick T B) (by rfl) hr (Nat.le_trans (by decide) (Nat.le_add_right 10 k)) (by rfl) (L2N.takes_of (by rfl) (by rfl) (by rfl) (by rfl)) (da_cons (de_var (pv 0)) (da_cons (de_callB call_len c_len (by rfl) T.n_len PySem.boot_len (da_cons (de_var (pv 3)) (da_nil))) (da_nil)))) (de_got (c := ⟨K, Tl a, B0, n⟩) (ok__law_pick T B) (by rfl) hr (Nat.le_trans (by decide) (Nat.le_add_right 10 k)) (by rfl) (L2N.takes_of (by rfl) (by rfl) (by rfl) (by rfl)) (da_cons (de_var (pv 0)) (da_cons (de_int) (da_nil))))) (dss_cons (ds_set (i := 6) sc__law_variant.nd (by rfl) (Or.inl rfl) (de_ix (by rfl) (de_var (pv 3)) (de_var (pv 4)) (by intro _ _; rfl))) (dss_cons (ds_if (PW.pt (dw_and (dt_val (de_callB call_isi c_isi (by rfl) T.n_isinstance PyProof.Rows.boot_isinstance (da_cons (de_var (pv 6)) (da_cons (de_c (pe_bltn (by rfl) T.n_tuple PyProof.Rows.boot_tuple (by rfl)) (fun _ _ => .ty _)) (da_nil))))) (dw_and (dt_cmp op_gt b_gt (de_var (pv 2)) (de_int) (nomark _)) (dw_and1 (dt_cmp op_gt b_gt (de_var (pv 5)) (de_int) (nomark _)))))) (dss_one (ds_ret (de_add (by rfl) (de_add (by rfl) (de_callTy call_tuple_of c_tuple (by rfl) T.n_tuple PyProof.Rows.boot_tuple (da_cons (de_slN (by rfl) (de_var (pv 3)) (de_var (pv 4))) (da_nil))) (de_tup (da_cons (de_got (c := ⟨K, Tl a, B0, n⟩) (ps := ["source", "value", "deep"]) (G := R__law_variant a k) RK (by rfl) hr (Nat.le_refl _) (by rfl) (L2N.takes_of (by rfl) (by rfl) (by rfl) (by rfl)) (da_cons (de_var (pv 0)) (da_cons (de_var (pv 6)) (da_cons (de_sub (de_var (pv 2)) (de_int)) (da_nil))))) (da_nil)))) (de_callTy call_tuple_of c_tuple (by rfl) T.n_tuple PyProof.Rows.boot_tuple (da_cons (de_slL (by rfl) (de_var (pv 3)) (de_add (by rfl) (de_var (pv 4)) (de_int))) (da_nil)))))) (dss_nil)) (dss_cons (ds_if (dt_cmp (o_eq (by rfl) hr.units) b_eq (de_var (pv 5)) (de_int) (nomark _)) (dss_one (ds_ret (de_callTy call_tuple_of c_tuple (by rfl) T.n_tuple PyProof.Rows.boot_tuple (da_cons (de_add (by rfl) (de_slN (by rfl) (de_var (pv 3)) (de_var (pv 4))) (de_slL (by rfl) (de_var (pv 3)) (de_add (by rfl) (de_var (pv 4)) (de_int)))) (da_nil))))) (dss_nil)) (dss_cons (ds_if (dt_cmp (o_eq (by rfl) hr.units) b_eq (de_var (pv 5)) (de_int) (nomark _)) (dss_one (ds_ret (de_callTy call_tuple_of c_tuple (by rfl) T.n_tuple PyProof.Rows.boot_tuple (da_cons (de_add (by rfl) (de_slN (by rfl) (de_var (pv 3)) (de_add (by rfl) (de_var (pv 4)) (de_int))) (de_slL (by rfl) (de_var (pv 3)) (de_var (pv 4)))) (da_nil))))) (dss_nil)) (dss_cons (ds_if (dt_cmp (o_eq (by rfl) hr.units) b_eq (de_var (pv 5)) (de_int) (nomark _)) (dss_one (ds_ret (de_callTy call_tuple_of c_tuple (by rfl) T.n_tuple PyProof.Rows.boot_tuple (da_cons (de_add (by rfl) (de_add (by rfl) (de_slN (by rfl) (de_var (pv 3)) (de_var (pv 4))) (de_rev (by rfl) (de_slB (by rfl) (de_var (pv 3)) (de_var (pv 4)) (de_add (by rfl) (de_var (pv 4)) (de_int))))) (de_slL (by rfl) (de_var (pv 3)) (de_add (by rfl) (de_var (pv 4)) (de_int)))) (da_nil))))) (dss_nil)) (dss_cons (ds_if (dt_cmp (o_eq (by rfl) hr.units) b_eq (de_var (pv 5)) (de_int) (nomark _)) (dss_one (ds_ret (de_var (pv 3)))) (dss_nil)) (dss_cons (ds_if (dt_cmp op_lt b_lt (de_var (pv 5)) (de_int) (nomark _)) (dss_one (ds_putL (de_var (pv 3)) (de_var (pv 4)) (de_got (c := ⟨K, Tl a, B0, n⟩) (ok__law_any_value T B) (by rfl) hr (Nat.le_trans (by decide) (Nat.le_add_right 10 k)) (by rfl) (L2N.takes_of (by rfl) (by rfl) (by rfl) (by rfl)) (da_cons (de_var (pv 0)) (da_cons (de_int) (da_nil)))))) (dss_cons (ds_set (i := 7) sc__law_variant.nd (by rfl) (Or.inl rfl) (de_lst (da_cons (de_non) (da_cons (de_bl) (da_cons (de_bl) (da_cons (de_int) (da_cons (de_int) (da_cons (de_neg (de_int)) (da_cons (de_int) (da_cons (de_int) (da_cons (de_int) (da_cons (de_int) (da_cons (de_int) (da_cons (de_int) (da_cons (de_str) (da_cons (de_tup (da_nil)) (da_cons (de_tup (da_cons (de_int) (da_cons (de_int) (da_nil)))) (da_cons (de_lst (da_cons (de_int) (da_cons (de_int) (da_nil)))) (da_nil))))))))))))))))))) (dss_one (ds_putL (de_var (pv 3)) (de_var (pv 4)) (de_got (c := ⟨K, Tl a, B0, n⟩) (ok__law_chosen T B) (by rfl) hr (Nat.le_trans (by decide) (Nat.le_add_right 10 k)) (by rfl) (L2N.takes_of (by rfl) (by rfl) (by rfl) (by rfl)) (da_cons (de_var (pv 0)) (da_cons (de_var (pv 7)) (da_nil)))))))) (dss_one (ds_ret (de_callTy call_tuple_of c_tuple (by rfl) T.n_tuple PyProof.Rows.boot_tuple (da_cons (de_var (pv 3)) (da_nil))))))))))))))
theorem okr__law_variant (T : Tx K mg a) (B : Bx mg base a) : ∀ k : Nat, Got P w K mg base (Tl a) (10 + k) "_law_variant" (a._law_variant) ["source", "value", "deep"] (R__law_variant a k)
  | 0 => got_bad T.d__law_variant
  | k + 1 => oks__law_variant T B k (okr__law_variant T B k)
theorem ok__law_variant (T : Tx K mg a) (B : Bx mg base a) : Got P w K mg base (Tl a) 16 "_law_variant" (a._law_variant) ["source", "value", "deep"] (F__law_variant a) := okr__law_variant T B 6
theorem sc__law_drawn_wedge : FnScope N__law_drawn_wedge ["source", "least", "most"] (defScope s__law_drawn_wedge) := ⟨rfl, rfl, rfl, by decide +kernel, rfl, by decide +kernel, by decide +kernel⟩
theorem ok__law_drawn_wedge (T : Tx K mg a) (B : Bx mg base a) : Got P w K mg base (Tl a) 3 "_law_drawn_wedge" (a._law_drawn_wedge) ["source", "least", "most"] (F__law_drawn_wedge a) :=
  got T.d__law_drawn_wedge sc__law_drawn_wedge fun cdv A outer s H E B0 n hr =>
    dss_cons (ds_par (by rfl) sc__law_drawn_wedge.nd (by rfl) (by rfl) (by decide) (by rfl) (by rfl) (de_lr2 (by rfl) (by rfl) T.n_range (by rfl) T.n_list (de_int) (de_int)) (de_lst (da_nil))) (dss_cons (ds_for (passes_of (by rfl)) (by rfl) (dl_rng1 (by rfl) T.n_range (da_cons (de_add (by rfl) (de_var (pv 1)) (de_got (c := ⟨K, Tl a, B0, n⟩) (ok__law_pick T B) (by rfl) hr (by decide) (by rfl) (L2N.takes_of (by rfl) (by rfl) (by rfl) (by rfl)) (da_cons (de_var (pv 0)) (da_cons (de_add (by rfl) (de_sub (de_var (pv 2)) (de_var (pv 1))) (de_int)) (da_nil))))) (da_nil))) (pg_name (i := 5) sc__law_drawn_wedge.nd (by rfl) (Or.inl rfl)) (g_name) (dss_cons (ds_set (i := 7) sc__law_drawn_wedge.nd (by rfl) (Or.inr rfl) (de_got (c := ⟨K, Tl a, B0, n⟩) (ok__law_chosen T B) (by rfl) hr (by decide) (by rfl) (L2N.takes_of (by rfl) (by rfl) (by rfl) (by rfl)) (da_cons (de_var (pv 0)) (da_cons (de_var (pv 3)) (da_nil))))) (dss_cons (ds_setLc (own := [("one", 8)]) (by rfl) sc__law_drawn_wedge.nd (by rfl) (by rfl) (dl_list (by rfl) (de_var (pv 3))) (blkOk_by (own := [("one", 8)]) (N := N__law_drawn_wedge) (sc := (defScope s__law_drawn_wedge)) (by decide +kernel)) (g_name) (by decide) (fun _ _ _ _ _ => pg_name (i := 8) sc__law_drawn_wedge.nd (by rfl) (Or.inl rfl)) (fun _ _ _ _ _ => dts_one (dt_cmp (o_ne (by rfl) hr.units) b_ne (de_var (pv 8)) (de_var (pv 7)) (nomark _))) (fun _ _ _ _ _ => de_var (pv 8))) (dss_one (ds_expr (de_app (de_var (pv 4)) (de_tup (da_cons (de_var (pv 7)) (da_cons (de_got (c := ⟨K, Tl a, B0, n⟩) (ok__law_pick T B) (by rfl) hr (by decide) (by rfl) (L2N.takes_of (by rfl) (by rfl) (by rfl) (by rfl)) (da_cons (de_var (pv 0)) (da_cons (de_int) (da_nil)))) (da_nil)))) (by rfl))))))) (dss_cons (ds_set (i := 6) sc__law_drawn_wedge.nd (by rfl) (Or.inl rfl) (de_got (c := ⟨K, Tl a, B0, n⟩) (ok__law_chosen T B) (by rfl) hr (by decide) (by rfl) (L2N.takes_of (by rfl) (by rfl) (by rfl) (by rfl)) (da_cons (de_var (pv 0)) (da_cons (de_lst (da_cons (de_int) (da_cons (de_int) (da_cons (de_int) (da_cons (de_int) (da_cons (de_int) (da_cons (de_int) (da_cons (de_int) (da_nil))))))))) (da_nil))))) (dss_one (ds_ret (de_tup (da_cons (de_var (pv 6)) (da_cons (de_add (by rfl) (de_int) (de_got (c := ⟨K, Tl a, B0, n⟩) (ok__law_pick T B) (by rfl) hr (by decide) (by rfl) (L2N.takes_of (by rfl) (by rfl) (by rfl) (by rfl)) (da_cons (de_var (pv 0)) (da_cons (de_int) (da_nil))))) (da_cons (de_callTy call_tuple_of c_tuple (by rfl) T.n_tuple PyProof.Rows.boot_tuple (da_cons (de_callB (cr_sortD hr.units) c_sorted (by rfl) T.n_sorted PyProof.Rows.boot_sorted (da_cons (de_var (pv 4)) (da_nil))) (da_nil))) (da_nil)))))))))
theorem sc__law_unfolded : FnScope N__law_unfolded ["place", "far"] (defScope s__law_unfolded) := ⟨rfl, rfl, rfl, by decide +kernel, rfl, by decide +kernel, by decide +kernel⟩
theorem ok__law_unfolded (T : Tx K mg a) (B : Bx mg base a) : Got P w K mg base (Tl a) 1 "_law_unfolded" (a._law_unfolded) ["place", "far"] (F__law_unfolded a) :=
  got T.d__law_unfolded sc__law_unfolded fun cdv A outer s H E B0 n hr =>
    dss_cons (ds_new (i := 2) sc__law_unfolded.nd (by rfl) (Or.inl rfl) (de_disp (dpp_cons (key := .inl 0) (pe_int) (de_var (pv 0)) (dpp_nil)))) (dss_cons (ds_for (passes_of (by rfl)) (by rfl) (dl_rng1 (by rfl) T.n_range (da_cons (de_var (pv 1)) (da_nil))) (pg_name (i := 3) sc__law_unfolded.nd (by rfl) (Or.inl rfl)) (g_name) (dss_cons (ds_putD hr.u1 (de_var (pv 2)) (de_add (by rfl) (de_var (pv 3)) (de_int)) (de_sub (de_mul (de_int) (de_add (by rfl) (de_var (pv 3)) (de_int))) (de_dg hr.u1 (de_var (pv 2)) (de_var (pv 3)) (by intro _ _; rfl)))) (dss_one (ds_putD hr.u1 (de_var (pv 2)) (de_sub (de_neg (de_var (pv 3))) (de_int)) (de_sub (de_mul (de_neg (de_int)) (de_var (pv 3))) (de_dg hr.u1 (de_var (pv 2)) (de_neg (de_var (pv 3))) (by intro _ _; rfl))))))) (dss_one (ds_ret (de_var (pv 2)))))
theorem sc__law_wide : FnScope N__law_wide ["value", "low", "high"] (defScope s__law_wide) := ⟨rfl, rfl, rfl, by decide +kernel, rfl, by decide +kernel, by decide +kernel⟩
theorem ok__law_wide (T : Tx K mg a) (B : Bx mg base a) : Got P w K mg base (Tl a) 1 "_law_wide" (a._law_wide) ["value", "low", "high"] (F__law_wide a) :=
  got T.d__law_wide sc__law_wide fun cdv A outer s H E B0 n hr =>
    dss_one (ds_ret (de_and (de_callB call_isi c_isi (by rfl) T.n_isinstance PyProof.Rows.boot_isinstance (da_cons (de_var (pv 0)) (da_cons (de_c (pe_bltn (by rfl) T.n_tuple PyProof.Rows.boot_tuple (by rfl)) (fun _ _ => .ty _)) (da_nil)))) (de_one (de_chain op_le op_le b0_le b0_le (de_var (pv 1)) (de_callB call_len c_len (by rfl) T.n_len PySem.boot_len (da_cons (de_var (pv 0)) (da_nil))) (de_var (pv 2))))))
theorem sc__law_whole : FnScope N__law_whole ["value", "low", "high"] (defScope s__law_whole) := ⟨rfl, rfl, rfl, by decide +kernel, rfl, by decide +kernel, by decide +kernel⟩
theorem ok__law_whole (T : Tx K mg a) (B : Bx mg base a) : Got P w K mg base (Tl a) 1 "_law_whole" (a._law_whole) ["value", "low", "high"] (F__law_whole a) :=
  got T.d__law_whole sc__law_whole fun cdv A outer s H E B0 n hr =>
    dss_one (ds_ret (de_and (de_callB call_isi c_isi (by rfl) T.n_isinstance PyProof.Rows.boot_isinstance (da_cons (de_var (pv 0)) (da_cons (de_c (pe_bltn (by rfl) T.n_int PyProof.Rows.boot_int (by rfl)) (fun _ _ => .ty _)) (da_nil)))) (de_and (de_not (de_callB call_isi c_isi (by rfl) T.n_isinstance PyProof.Rows.boot_isinstance (da_cons (de_var (pv 0)) (da_cons (de_c (pe_bltn (by rfl) T.n_bool PyProof.Rows.boot_bool (by rfl)) (fun _ _ => .ty _)) (da_nil))))) (de_one (de_chain op_le op_le b0_le b0_le (de_var (pv 1)) (de_var (pv 0)) (de_var (pv 2)))))))
theorem sc__law_good_mark : FnScope N__law_good_mark ["value"] (defScope s__law_good_mark) := ⟨rfl, rfl, rfl, by decide +kernel, rfl, by decide +kernel, by decide +kernel⟩
theorem ok__law_good_mark (T : Tx K mg a) (B : Bx mg base a) : Got P w K mg base (Tl a) 2 "_law_good_mark" (a._law_good_mark) ["value"] (F__law_good_mark a) :=
  got T.d__law_good_mark sc__law_good_mark fun cdv A outer s H E B0 n hr =>
    dss_one (ds_ret (de_and (de_got (c := ⟨K, Tl a, B0, n⟩) (ok__law_wide T B) (by rfl) hr (by decide) (by rfl) (L2N.takes_of (by rfl) (by rfl) (by rfl) (by rfl)) (da_cons (de_var (pv 0)) (da_cons (de_int) (da_cons (de_int) (da_nil))))) (de_and (de_got (c := ⟨K, Tl a, B0, n⟩) (ok__law_whole T B) (by rfl) hr (by decide) (by rfl) (L2N.takes_of (by rfl) (by rfl) (by rfl) (by rfl)) (da_cons (de_ix (by rfl) (de_var (pv 0)) (de_int) (by intro _ _; rfl)) (da_cons (de_int) (da_cons (de_int) (da_nil))))) (de_one (de_got (c := ⟨K, Tl a, B0, n⟩) (ok__law_whole T B) (by rfl) hr (by decide) (by rfl) (L2N.takes_of (by rfl) (by rfl) (by rfl) (by rfl)) (da_cons (de_ix (by rfl) (de_var (pv 0)) (de_int) (by intro _ _; rfl)) (da_cons (de_int) (da_cons (de_int) (da_nil)))))))))
theorem sc__law_good : FnScope N__law_good ["value"] (defScope s__law_good) := ⟨rfl, rfl, rfl, by decide +kernel, rfl, by decide +kernel, by decide +kernel⟩
theorem ok__law_good (T : Tx K mg a) (B : Bx mg base a) : Got P w K mg base (Tl a) 3 "_law_good" (a._law_good) ["value"] (F__law_good a) :=
  got T.d__law_good sc__law_good fun cdv A outer s H E B0 n hr =>
    dss_cons (ds_if (PW.pt (dw_or (dt_not (dt_val (de_got (c := ⟨K, Tl a, B0, n⟩) (ok__law_wide T B) (by rfl) hr (by decide) (by rfl) (L2N.takes_of (by rfl) (by rfl) (by rfl) (by rfl)) (da_cons (de_var (pv 0)) (da_cons (de_int) (da_cons (de_int) (da_nil))))))) (dw_or (dt_not (dt_val (de_got (c := ⟨K, Tl a, B0, n⟩) (ok__law_whole T B) (by rfl) hr (by decide) (by rfl) (L2N.takes_of (by rfl) (by rfl) (by rfl) (by rfl)) (da_cons (de_ix (by rfl) (de_var (pv 0)) (de_int) (by intro _ _; rfl)) (da_cons (de_int) (da_cons (de_int) (da_nil))))))) (dw_or1 (dt_not (dt_val (de_got (c := ⟨K, Tl a, B0, n⟩) (ok__law_whole T B) (by rfl) hr (by decide) (by rfl) (L2N.takes_of (by rfl) (by rfl) (by rfl) (by rfl)) (da_cons (de_ix (by rfl) (de_var (pv 0)) (de_int) (by intro _ _; rfl)) (da_cons (de_int) (da_cons (de_int) (da_nil))))))))))) (dss_one (ds_ret (de_bl))) (dss_nil)) (dss_cons (ds_if (PW.pt (dw_or (dt_not (dt_val (de_got (c := ⟨K, Tl a, B0, n⟩) (ok__law_wide T B) (by rfl) hr (by decide) (by rfl) (L2N.takes_of (by rfl) (by rfl) (by rfl) (by rfl)) (da_cons (de_ix (by rfl) (de_var (pv 0)) (de_int) (by intro _ _; rfl)) (da_cons (de_int) (da_cons (de_int) (da_nil))))))) (dw_or1 (dt_cmp (o_ne (by rfl) hr.units) b_ne (de_comp (own := [("one", 4)]) (by rfl) sc__law_good.nd (dl_tup (by rfl) (de_ix (by rfl) (de_var (pv 0)) (de_int) (by intro _ _; rfl))) (blkOk_by (own := [("one", 4)]) (N := N__law_good) (sc := (defScope s__law_good)) (by decide +kernel)) (g_name) (by decide) (fun _ _ _ _ _ => pg_name (i := 4) sc__law_good.nd (by rfl) (Or.inl rfl)) (fun _ _ _ _ _ => dts_one (dt_not (dt_val (de_got (c := ⟨K, Tl a, B0, n⟩) (ok__law_good_mark T B) (by rfl) hr (by decide) (by rfl) takesN (da_cons (de_var (pv 4)) (da_nil)))))) (fun _ _ _ _ _ => de_var (pv 4))) (de_lst (da_nil)) (nomark _))))) (dss_one (ds_ret (de_bl))) (dss_nil)) (dss_cons (ds_setLc (own := [("place", 2), ("colour", 3)]) (by rfl) sc__law_good.nd (by rfl) (by rfl) (dl_tup (by rfl) (de_ix (by rfl) (de_var (pv 0)) (de_int) (by intro _ _; rfl))) (blkOk_by (own := [("place", 2), ("colour", 3)]) (N := N__law_good) (sc := (defScope s__law_good)) (by decide +kernel)) (g_tup (gs_cons (g_name) (gs_cons (g_name) (gs_nil)))) (by decide) (fun _ _ _ _ _ => pg_tup (n := 2) (by rfl) (pgs_cons (pg_name (i := 2) sc__law_good.nd (by rfl) (Or.inl rfl)) (pgs_cons (pg_name (i := 3) sc__law_good.nd (by rfl) (Or.inl rfl)) (pgs_nil)))) (fun _ _ _ _ _ => dts_nil) (fun _ _ _ _ _ => de_var (pv 2))) (dss_one (ds_ret (de_cmpR (o_eq (by rfl) hr.units) b_eq (de_var (pv 1)) (de_srt (by rfl) (by rfl) (by rfl) T.n_sorted (by rfl) T.n_set (de_var (pv 1))) (nomark _))))))
theorem sc__law_went : FnScope N__law_went ["look"] (defScope s__law_went) := ⟨rfl, rfl, rfl, by decide +kernel, rfl, by decide +kernel, by decide +kernel⟩
theorem ok__law_went (T : Tx K mg a) (B : Bx mg base a) : Got P w K mg base (Tl a) 1 "_law_went" (a._law_went) ["look"] (F__law_went a) :=
  got T.d__law_went sc__law_went fun cdv A outer s H E B0 n hr =>
    dss_cons (ds_set (i := 1) sc__law_went.nd (by rfl) (Or.inl rfl) (de_int)) (dss_cons (ds_for (passes_of (by rfl)) (by rfl) (dl_str (de_var (pv 0))) (pg_name (i := 2) sc__law_went.nd (by rfl) (Or.inl rfl)) (g_name) (dss_cons (ds_set (i := 3) sc__law_went.nd (by rfl) (Or.inl rfl) (de_if (dt_cmp (o_eq (by rfl) hr.units) b_eq (de_mod (de_var (pv 1)) (de_int)) (de_int) (nomark _)) (de_disp (dpp_cons (key := .inr "L") (pe_str) (de_sub (de_var (pv 1)) (de_int)) (dpp_cons (key := .inr "R") (pe_str) (de_add (by rfl) (de_var (pv 1)) (de_int)) (dpp_nil)))) (de_disp (dpp_cons (key := .inr "R") (pe_str) (de_sub (de_var (pv 1)) (de_int)) (dpp_cons (key := .inr "L") (pe_str) (de_add (by rfl) (de_var (pv 1)) (de_int)) (dpp_nil)))))) (dss_one (ds_set (i := 1) sc__law_went.nd (by rfl) (Or.inl rfl) (de_dg hr.u1 (de_var (pv 3)) (de_var (pv 2)) (by intro _ _; rfl)))))) (dss_one (ds_ret (de_var (pv 1)))))
theorem sc__law_error : FnScope N__law_error ["e"] (defScope s__law_error) := ⟨rfl, rfl, rfl, by decide +kernel, rfl, by decide +kernel, by decide +kernel⟩
theorem ok__law_error (T : Tx K mg a) : GotE P w K mg base (Tl a) 1 a.WedgeError a.er := by
  obtain ⟨fd, F, hb, _⟩ := T.d__law_error.fn
  refine ⟨T.k_WedgeError, a._law_error, fd, T.d__law_error.g, T.d__law_error.k, hb, fun C x he => ?_⟩
  rw [T.er] at he
  obtain ⟨G, rfl⟩ := erK_some he
  refine ⟨G.e, (fn_okE (k := 0) (body := fun ea => B__law_error a (fun D => PySem.W.kitOne K (.ref C) (.ref D)) ea) F sc__law_error (fun cdv A outer s H E B0 n p hE => ?_) rfl).imp fun ea vs H Q E ⟨h1, ρ, μ, g, p⟩ => ⟨h1, ρ, μ, g, ?_⟩⟩
  · exact dss_cons (ds_set (i := 1) sc__law_error.nd (by rfl) (Or.inl rfl) (de_lst (da_cons (de_tup (da_cons (de_str) (da_cons (de_callB (call_isH G.c hE) (c_isE (fun _ _ h => h)) (by rfl) T.n_isinstance PyProof.Rows.boot_isinstance (da_cons (de_var (pv 0)) (da_cons (de_clsV (j := 0) T.k_InvalidWedge (by rfl)) (da_nil)))) (da_nil)))) (da_cons (de_tup (da_cons (de_str) (da_cons (de_callB (call_isH G.c hE) (c_isE (fun _ _ h => h)) (by rfl) T.n_isinstance PyProof.Rows.boot_isinstance (da_cons (de_var (pv 0)) (da_cons (de_clsV (j := 0) T.k_InvalidNumber (by rfl)) (da_nil)))) (da_nil)))) (da_nil))))) (dss_cons (ds_set (i := 1) sc__law_error.nd (by rfl) (Or.inl rfl) (de_add (by rfl) (de_var (pv 1)) (de_lst (da_cons (de_tup (da_cons (de_str) (da_cons (de_callB (call_isH G.c hE) (c_isE (fun _ _ h => h)) (by rfl) T.n_isinstance PyProof.Rows.boot_isinstance (da_cons (de_var (pv 0)) (da_cons (de_clsV (j := 0) T.k_InvalidIndex (by rfl)) (da_nil)))) (da_nil)))) (da_cons (de_tup (da_cons (de_str) (da_cons (de_callB (call_isH G.c hE) (c_isE (fun _ _ h => h)) (by rfl) T.n_isinstance PyProof.Rows.boot_isinstance (da_cons (de_var (pv 0)) (da_cons (de_clsV (j := 0) T.k_InvalidCopy (by rfl)) (da_nil)))) (da_nil)))) (da_nil)))))) (dss_cons (ds_set (i := 1) sc__law_error.nd (by rfl) (Or.inl rfl) (de_add (by rfl) (de_var (pv 1)) (de_lst (da_cons (de_tup (da_cons (de_str) (da_cons (de_callB (call_isH G.c hE) (c_isE (fun _ _ h => h)) (by rfl) T.n_isinstance PyProof.Rows.boot_isinstance (da_cons (de_var (pv 0)) (da_cons (de_clsV (j := 0) T.k_InvalidLook (by rfl)) (da_nil)))) (da_nil)))) (da_cons (de_tup (da_cons (de_str) (da_cons (de_callB (call_isH G.c hE) (c_isE (fun _ _ h => h)) (by rfl) T.n_isinstance PyProof.Rows.boot_isinstance (da_cons (de_var (pv 0)) (da_cons (de_clsV (j := 0) T.k_InvalidColour (by rfl)) (da_nil)))) (da_nil)))) (da_nil)))))) (dss_cons (ds_set (i := 1) sc__law_error.nd (by rfl) (Or.inl rfl) (de_add (by rfl) (de_var (pv 1)) (de_lst (da_cons (de_tup (da_cons (de_str) (da_cons (de_callB (call_isH G.c hE) (c_isE (fun _ _ h => h)) (by rfl) T.n_isinstance PyProof.Rows.boot_isinstance (da_cons (de_var (pv 0)) (da_cons (de_clsV (j := 0) T.k_InvalidForm (by rfl)) (da_nil)))) (da_nil)))) (da_cons (de_tup (da_cons (de_str) (da_cons (de_callB (call_isH G.c hE) (c_isE (fun _ _ h => h)) (by rfl) T.n_isinstance PyProof.Rows.boot_isinstance (da_cons (de_var (pv 0)) (da_cons (de_clsV (j := 0) T.k_InvalidSeen (by rfl)) (da_nil)))) (da_nil)))) (da_nil)))))) (dss_cons (ds_set (i := 1) sc__law_error.nd (by rfl) (Or.inl rfl) (de_add (by rfl) (de_var (pv 1)) (de_lst (da_cons (de_tup (da_cons (de_str) (da_cons (de_callB (call_isH G.c hE) (c_isE (fun _ _ h => h)) (by rfl) T.n_isinstance PyProof.Rows.boot_isinstance (da_cons (de_var (pv 0)) (da_cons (de_clsV (j := 0) T.k_InvalidDeed (by rfl)) (da_nil)))) (da_nil)))) (da_cons (de_tup (da_cons (de_str) (da_cons (de_callB (call_isH G.c hE) (c_isE (fun _ _ h => h)) (by rfl) T.n_isinstance PyProof.Rows.boot_isinstance (da_cons (de_var (pv 0)) (da_cons (de_clsV (j := 0) T.k_InvalidText (by rfl)) (da_nil)))) (da_nil)))) (da_nil)))))) (dss_cons (ds_set (i := 1) sc__law_error.nd (by rfl) (Or.inl rfl) (de_add (by rfl) (de_var (pv 1)) (de_lst (da_cons (de_tup (da_cons (de_str) (da_cons (de_callB (call_isH G.c hE) (c_isE (fun _ _ h => h)) (by rfl) T.n_isinstance PyProof.Rows.boot_isinstance (da_cons (de_var (pv 0)) (da_cons (de_clsV (j := 0) T.k_NothingToUndo (by rfl)) (da_nil)))) (da_nil)))) (da_cons (de_tup (da_cons (de_str) (da_cons (de_callB (call_isH G.c hE) (c_isE (fun _ _ h => h)) (by rfl) T.n_isinstance PyProof.Rows.boot_isinstance (da_cons (de_var (pv 0)) (da_cons (de_clsV (j := 0) T.k_TooMany (by rfl)) (da_nil)))) (da_nil)))) (da_nil)))))) (dss_one (ds_ret (de_join (de_str) (de_compH (own := [("word_so", 2), ("good", 3)]) hE.hot sc__law_error.nd (dl_listH (by rfl) (de_var (pv 1))) (blkOk_by (own := [("word_so", 2), ("good", 3)]) (N := N__law_error) (sc := (defScope s__law_error)) (by decide +kernel)) (g_tup (gs_cons (g_name) (gs_cons (g_name) (gs_nil)))) (by decide) (fun _ _ _ _ _ => pg_tupH (n := 2) hE.hot (pgs_cons (pg_name (i := 2) sc__law_error.nd (by rfl) (Or.inl rfl)) (pgs_cons (pg_name (i := 3) sc__law_error.nd (by rfl) (Or.inl rfl)) (pgs_nil)))) (fun _ _ _ _ _ => dts_one (dt_val (de_var (pv 3)))) (fun _ _ _ _ _ => de_var (pv 2))) (by rfl)))))))))
  · have e : defF N__law_error.length (B__law_error a (fun D => PySem.W.kitOne K (.ref C) (.ref D)) ea) [.val (.fn ea 0)] μ = _ := err_F a (fun D => PySem.W.kitOne K (.ref C) (.ref D)) ea μ G.k
    rw [e]
    exact p
theorem sc__law_refused : FnScope N__law_refused ["call"] (defScope s__law_refused) := ⟨rfl, rfl, rfl, by decide +kernel, rfl, by decide +kernel, by decide +kernel⟩
theorem sc__law_by_one : FnScope N__law_by_one ["call", "one"] (defScope s__law_by_one) := ⟨rfl, rfl, rfl, by decide +kernel, rfl, by decide +kernel, by decide +kernel⟩
theorem ok__law_by_one (T : Tx K mg a) (B : Bx mg base a) : Got P w K mg base (Tl a) 8 "_law_by_one" (a._law_by_one) ["call", "one"] (F__law_by_one a) :=
  gotT T.d__law_by_one T.m__law_by_one sc__law_by_one fun A outer s H E B0 n hr =>
    dss_one (ds_ret (de_ref (c := ⟨K, Tl a, B0, n⟩) (k := 5) (NR := ["call", "e"]) (by rfl) T.d__law_refused sc__law_refused (ok__law_error T) (hr.mono (by decide)) (by decide) (by rfl) (B (a.c__law_by_one, a.p__law_by_one) (by simp [cs])) rfl (hm__law_by_one a) (tab_uni T.nd (hm__law_by_one a)) (LamX.lamS_by (sc := defScope s__law_by_one) (by decide +kernel)) (fun A' o' s' H' E' f' c' hr => de_callV (c := ⟨K, Tl a, B0, n⟩) (tab := Fv a) (fv_ok T B) (by rfl) hr (by decide) (by rfl) (by first | exact Or.inl rfl | exact Or.inr (Or.inl rfl) | exact Or.inr (Or.inr rfl)) (L2N.takes_of (by rfl) (by rfl) (by rfl) (by rfl)) (da_cons (de_var (pv 1)) (da_nil)))))
theorem sc__law_by_three : FnScope N__law_by_three ["call", "one", "other", "third"] (defScope s__law_by_three) := ⟨rfl, rfl, rfl, by decide +kernel, rfl, by decide +kernel, by decide +kernel⟩
theorem ok__law_by_three (T : Tx K mg a) (B : Bx mg base a) : Got P w K mg base (Tl a) 8 "_law_by_three" (a._law_by_three) ["call", "one", "other", "third"] (F__law_by_three a) :=
  gotT T.d__law_by_three T.m__law_by_three sc__law_by_three fun A outer s H E B0 n hr =>
    dss_one (ds_ret (de_ref (c := ⟨K, Tl a, B0, n⟩) (k := 5) (NR := ["call", "e"]) (by rfl) T.d__law_refused sc__law_refused (ok__law_error T) (hr.mono (by decide)) (by decide) (by rfl) (B (a.c__law_by_three, a.p__law_by_three) (by simp [cs])) rfl (hm__law_by_three a) (tab_uni T.nd (hm__law_by_three a)) (LamX.lamS_by (sc := defScope s__law_by_three) (by decide +kernel)) (fun A' o' s' H' E' f' c' hr => de_callV (c := ⟨K, Tl a, B0, n⟩) (tab := Fv a) (fv_ok T B) (by rfl) hr (by decide) (by rfl) (by first | exact Or.inl rfl | exact Or.inr (Or.inl rfl) | exact Or.inr (Or.inr rfl)) (L2N.takes_of (by rfl) (by rfl) (by rfl) (by rfl)) (da_cons (de_var (pv 1)) (da_cons (de_var (pv 2)) (da_cons (de_var (pv 3)) (da_nil)))))))
theorem sc__law_refusals : FnScope N__law_refusals ["wedge", "index"] (defScope s__law_refusals) := ⟨rfl, rfl, rfl, by decide +kernel, rfl, by decide +kernel, by decide +kernel⟩
theorem ok__law_refusals (T : Tx K mg a) (B : Bx mg base a) : Got P w K mg base (Tl a) 9 "_law_refusals" (a._law_refusals) ["wedge", "index"] (F__law_refusals a) :=
  got T.d__law_refusals sc__law_refusals fun cdv A outer s H E B0 n hr =>
    dss_cons (ds_for (passes_of (by rfl)) (by rfl) (dl_list (by rfl) (de_lst (da_cons (de_non) (da_cons (de_add (by rfl) (de_pow (de_int) (de_int)) (de_int)) (da_cons (de_sub (de_neg (de_pow (de_int) (de_int))) (de_int)) (da_cons (de_bl) (da_cons (de_str) (da_nil)))))))) (pg_name (i := 2) sc__law_refusals.nd (by rfl) (Or.inl rfl)) (g_name) (dss_one (ds_if (PW.pt (dw_or (dt_cmp (o_ne (by rfl) hr.units) b_ne (de_got (c := ⟨K, Tl a, B0, n⟩) (ok__law_by_three T B) (by rfl) hr (by decide) (by rfl) (L2N.takes_of (by rfl) (by rfl) (by rfl) (by rfl)) (da_cons (de_defV (c := ⟨K, Tl a, B0, n⟩) (j := 0) (ok_angle T B) (by rfl)) (da_cons (de_var (pv 0)) (da_cons (de_var (pv 1)) (da_cons (de_var (pv 2)) (da_nil)))))) (de_str) (nomark _)) (dw_or1 (dt_cmp (o_ne (by rfl) hr.units) b_ne (de_got (c := ⟨K, Tl a, B0, n⟩) (ok__law_by_one T B) (by rfl) hr (by decide) (by rfl) (L2N.takes_of (by rfl) (by rfl) (by rfl) (by rfl)) (da_cons (de_defV (c := ⟨K, Tl a, B0, n⟩) (j := 2) (ok_look_to T B) (by rfl)) (da_cons (de_var (pv 2)) (da_nil)))) (de_str) (nomark _))))) (dss_one (ds_ret (de_bl))) (dss_nil)))) (dss_cons (ds_for (passes_of (by rfl)) (by rfl) (dl_list (by rfl) (de_lst (da_cons (de_non) (da_cons (de_neg (de_int)) (da_cons (de_callB call_len c_len (by rfl) T.n_len PySem.boot_len (da_cons (de_ix (by rfl) (de_var (pv 0)) (de_int) (by intro _ _; rfl)) (da_nil))) (da_cons (de_bl) (da_nil))))))) (pg_name (i := 2) sc__law_refusals.nd (by rfl) (Or.inl rfl)) (g_name) (dss_one (ds_if (dt_cmp (o_ne (by rfl) hr.units) b_ne (de_got (c := ⟨K, Tl a, B0, n⟩) (ok__law_by_three T B) (by rfl) hr (by decide) (by rfl) (L2N.takes_of (by rfl) (by rfl) (by rfl) (by rfl)) (da_cons (de_defV (c := ⟨K, Tl a, B0, n⟩) (j := 0) (ok_angle T B) (by rfl)) (da_cons (de_var (pv 0)) (da_cons (de_var (pv 2)) (da_cons (de_non) (da_nil)))))) (de_str) (nomark _)) (dss_one (ds_ret (de_bl))) (dss_nil)))) (dss_cons (ds_for (passes_of (by rfl)) (by rfl) (dl_list (by rfl) (de_lst (da_cons (de_non) (da_cons (de_str) (da_cons (de_mulS (de_str) (de_int)) (da_cons (de_lst (da_cons (de_str) (da_nil))) (da_cons (de_int) (da_cons (de_str) (da_nil))))))))) (pg_name (i := 2) sc__law_refusals.nd (by rfl) (Or.inl rfl)) (g_name) (dss_one (ds_if (dt_cmp (o_ne (by rfl) hr.units) b_ne (de_got (c := ⟨K, Tl a, B0, n⟩) (ok__law_by_one T B) (by rfl) hr (by decide) (by rfl) (L2N.takes_of (by rfl) (by rfl) (by rfl) (by rfl)) (da_cons (de_defV (c := ⟨K, Tl a, B0, n⟩) (j := 1) (ok_copy_behind T B) (by rfl)) (da_cons (de_var (pv 2)) (da_nil)))) (de_str) (nomark _)) (dss_one (ds_ret (de_bl))) (dss_nil)))) (dss_one (ds_ret (de_and (de_cmpR (o_eq (by rfl) hr.units) b_eq (de_got (c := ⟨K, Tl a, B0, n⟩) (ok__law_by_three T B) (by rfl) hr (by decide) (by rfl) (L2N.takes_of (by rfl) (by rfl) (by rfl) (by rfl)) (da_cons (de_defV (c := ⟨K, Tl a, B0, n⟩) (j := 0) (ok_angle T B) (by rfl)) (da_cons (de_callTy call_list_of c_list (by rfl) T.n_list PyProof.Rows.boot_list (da_cons (de_var (pv 0)) (da_nil))) (da_cons (de_non) (da_cons (de_non) (da_nil)))))) (de_str) (nomark _)) (de_one (de_cmpR (o_eq (by rfl) hr.units) b_eq (de_got (c := ⟨K, Tl a, B0, n⟩) (ok__law_by_one T B) (by rfl) hr (by decide) (by rfl) (L2N.takes_of (by rfl) (by rfl) (by rfl) (by rfl)) (da_cons (de_defV (c := ⟨K, Tl a, B0, n⟩) (j := 2) (ok_look_to T B) (by rfl)) (da_cons (de_neg (de_int)) (da_nil)))) (de_str) (nomark _))))))))
theorem sc_law : FnScope N_law ["script"] (defScope s_law) := ⟨rfl, rfl, rfl, by decide +kernel, rfl, by decide +kernel, by decide +kernel⟩
theorem ok_law (T : Tx K mg a) : ∃ fd, PureB fd ["script"] ∧ ∀ base : Heap, Bx mg base a → FnOk P w K mg base (L2N.CX P w) 17 a.law fd ["script"] (spF K (Tl a) 1 (F_law a)) :=
  gotLB (Bp := fun base => Bx mg base a) T.d_law sc_law fun base B cdv A outer s H E B0 n hr =>
    dss_cons (ds_for (passes_of (by rfl)) (by rfl) (dl_rng1 (by rfl) T.n_range (da_cons (de_callB (call_max2 rfl) c_max (by rfl) T.n_max PyProof.Rows.boot_max (da_cons (de_int) (da_cons (de_callB (call_min2 rfl) c_min (by rfl) T.n_min PyProof.Rows.boot_min (da_cons (de_int) (da_cons (de_callB call_len c_len (by rfl) T.n_len PySem.boot_len (da_cons (de_var (pv 0)) (da_nil))) (da_nil)))) (da_nil)))) (da_nil))) (pg_name (i := 1) sc_law.nd (by rfl) (Or.inl rfl)) (g_name) (dss_cons (ds_new (i := 2) sc_law.nd (by rfl) (Or.inr rfl) (de_got (c := ⟨K, Tl a, B0, n⟩) (ok__law_source T B) (by rfl) hr (by decide) (by rfl) (L2N.takes_of (by rfl) (by rfl) (by rfl) (by rfl)) (da_cons (de_var (pv 0)) (da_cons (de_var (pv 1)) (da_nil))))) (dss_cons (ds_set (i := 3) sc_law.nd (by rfl) (Or.inl rfl) (de_got (c := ⟨K, Tl a, B0, n⟩) (ok__law_drawn_wedge T B) (by rfl) hr (by decide) (by rfl) (L2N.takes_of (by rfl) (by rfl) (by rfl) (by rfl)) (da_cons (de_var (pv 2)) (da_cons (de_int) (da_cons (de_int) (da_nil)))))) (dss_cons (ds_new (i := 4) sc_law.nd (by rfl) (Or.inl rfl) (de_lst (da_cons (de_var (pv 3)) (da_cons (de_callTy call_list_of c_list (by rfl) T.n_list PyProof.Rows.boot_list (da_cons (de_var (pv 3)) (da_nil))) (da_cons (de_slN (by rfl) (de_var (pv 3)) (de_int)) (da_cons (de_add (by rfl) (de_var (pv 3)) (de_tup (da_cons (de_int) (da_nil)))) (da_cons (de_add (by rfl) (de_tup (da_cons (de_int) (da_nil))) (de_slL (by rfl) (de_var (pv 3)) (de_int))) (da_cons (de_add (by rfl) (de_slN (by rfl) (de_var (pv 3)) (de_int)) (de_tup (da_cons (de_mulT (by rfl) (de_ix (by rfl) (de_var (pv 3)) (de_int) (by intro _ _; rfl)) (de_int)) (da_nil)))) (da_cons (de_int) (da_nil)))))))))) (dss_cons (ds_expr (de_app (de_var (pv 4)) (de_add (by rfl) (de_slN (by rfl) (de_var (pv 3)) (de_int)) (de_tup (da_cons (de_rev (by rfl) (de_ix (by rfl) (de_var (pv 3)) (de_int) (by intro _ _; rfl))) (da_nil)))) (by rfl))) (dss_cons (ds_for (passes_of (by rfl)) (by rfl) (dl_rng1 (by rfl) T.n_range (da_cons (de_int) (da_nil))) (pg_name (i := 5) sc_law.nd (by rfl) (Or.inl rfl)) (g_name) (dss_cons (ds_set (i := 12) sc_law.nd (by rfl) (Or.inl rfl) (de_got (c := ⟨K, Tl a, B0, n⟩) (ok__law_variant T B) (by rfl) hr (by decide) (by rfl) (L2N.takes_of (by rfl) (by rfl) (by rfl) (by rfl)) (da_cons (de_var (pv 2)) (da_cons (de_var (pv 3)) (da_cons (de_int) (da_nil)))))) (dss_cons (ds_expr (de_app (de_var (pv 4)) (de_var (pv 12)) (by rfl))) (dss_one (ds_if (PW.pt (dw_and (dt_val (de_callB call_isi c_isi (by rfl) T.n_isinstance PyProof.Rows.boot_isinstance (da_cons (de_var (pv 12)) (da_cons (de_c (pe_bltn (by rfl) T.n_tuple PyProof.Rows.boot_tuple (by rfl)) (fun _ _ => .ty _)) (da_nil))))) (dw_and1 (dt_cmp (o_eq (by rfl) hr.units) b_eq (de_got (c := ⟨K, Tl a, B0, n⟩) (ok__law_pick T B) (by rfl) hr (by decide) (by rfl) (L2N.takes_of (by rfl) (by rfl) (by rfl) (by rfl)) (da_cons (de_var (pv 2)) (da_cons (de_int) (da_nil)))) (de_int) (nomark _))))) (dss_one (ds_expr (de_app (de_var (pv 4)) (de_got (c := ⟨K, Tl a, B0, n⟩) (ok__law_variant T B) (by rfl) hr (by decide) (by rfl) (L2N.takes_of (by rfl) (by rfl) (by rfl) (by rfl)) (da_cons (de_var (pv 2)) (da_cons (de_var (pv 12)) (da_cons (de_int) (da_nil))))) (by rfl)))) (dss_nil)))))) (dss_cons (ds_for (passes_of (by rfl)) (by rfl) (dl_list (by rfl) (de_add (by rfl) (de_var (pv 4)) (de_lst (da_cons (de_got (c := ⟨K, Tl a, B0, n⟩) (ok__law_any_value T B) (by rfl) hr (by decide) (by rfl) (L2N.takes_of (by rfl) (by rfl) (by rfl) (by rfl)) (da_cons (de_var (pv 2)) (da_cons (de_int) (da_nil)))) (da_nil))))) (pg_name (i := 6) sc_law.nd (by rfl) (Or.inl rfl)) (g_name) (dss_one (ds_if (dt_not (dt_val (de_got (c := ⟨K, Tl a, B0, n⟩) (ok__law_is_bool T B) (by rfl) hr (by decide) (by rfl) (L2N.takes_of (by rfl) (by rfl) (by rfl) (by rfl)) (da_cons (de_got (c := ⟨K, Tl a, B0, n⟩) (ok_is_wedge T B) (by rfl) hr (by decide) (by rfl) (L2N.takes_of (by rfl) (by rfl) (by rfl) (by rfl)) (da_cons (de_var (pv 6)) (da_nil))) (da_cons (de_got (c := ⟨K, Tl a, B0, n⟩) (ok__law_good T B) (by rfl) hr (by decide) (by rfl) (L2N.takes_of (by rfl) (by rfl) (by rfl) (by rfl)) (da_cons (de_var (pv 6)) (da_nil))) (da_nil)))))) (dss_one (ds_ret (de_bl))) (dss_nil)))) (dss_cons (ds_set (i := 7) sc_law.nd (by rfl) (Or.inl rfl) (de_got (c := ⟨K, Tl a, B0, n⟩) (ok__law_pick T B) (by rfl) hr (by decide) (by rfl) (L2N.takes_of (by rfl) (by rfl) (by rfl) (by rfl)) (da_cons (de_var (pv 2)) (da_cons (de_callB call_len c_len (by rfl) T.n_len PySem.boot_len (da_cons (de_ix (by rfl) (de_var (pv 3)) (de_int) (by intro _ _; rfl)) (da_nil))) (da_nil))))) (dss_cons (ds_par (by rfl) sc_law.nd (by rfl) (by rfl) (by decide) (by rfl) (by rfl) (de_got (c := ⟨K, Tl a, B0, n⟩) (ok__law_unfolded T B) (by rfl) hr (by decide) (by rfl) (L2N.takes_of (by rfl) (by rfl) (by rfl) (by rfl)) (da_cons (de_ix (by rfl) (de_ix (by rfl) (de_ix (by rfl) (de_var (pv 3)) (de_int) (by intro _ _; rfl)) (de_var (pv 7)) (by intro _ _; rfl)) (de_int) (by intro _ _; rfl)) (da_cons (de_int) (da_nil)))) (de_mul (de_int) (de_got (c := ⟨K, Tl a, B0, n⟩) (ok__law_pick T B) (by rfl) hr (by decide) (by rfl) (L2N.takes_of (by rfl) (by rfl) (by rfl) (by rfl)) (da_cons (de_var (pv 2)) (da_cons (de_pow (de_int) (de_int)) (da_nil)))))) (dss_cons (ds_for (passes_of (by rfl)) (by rfl) (dl_keys (de_var (pv 8))) (pg_name (i := 10) sc_law.nd (by rfl) (Or.inl rfl)) (g_name) (dss_cons (ds_if (dt_cmp (o_ne (by rfl) hr.units) b_ne (de_got (c := ⟨K, Tl a, B0, n⟩) (ok_angle T B) (by rfl) hr (by decide) (by rfl) (L2N.takes_of (by rfl) (by rfl) (by rfl) (by rfl)) (da_cons (de_var (pv 3)) (da_cons (de_var (pv 7)) (da_cons (de_var (pv 10)) (da_nil))))) (de_dg hr.u1 (de_var (pv 8)) (de_var (pv 10)) (by intro _ _; rfl)) (nomark _)) (dss_one (ds_ret (de_bl))) (dss_nil)) (dss_one (ds_if (dt_cmp (o_ne (by rfl) hr.units) b_ne (de_got (c := ⟨K, Tl a, B0, n⟩) (ok_angle T B) (by rfl) hr (by decide) (by rfl) (L2N.takes_of (by rfl) (by rfl) (by rfl) (by rfl)) (da_cons (de_var (pv 3)) (da_cons (de_var (pv 7)) (da_cons (de_sub (de_var (pv 10)) (de_var (pv 9))) (da_nil))))) (de_sub (de_dg hr.u1 (de_var (pv 8)) (de_var (pv 10)) (by intro _ _; rfl)) (de_mul (de_int) (de_var (pv 9)))) (nomark _)) (dss_one (ds_ret (de_bl))) (dss_nil))))) (dss_cons (ds_set (i := 11) sc_law.nd (by rfl) (Or.inl rfl) (de_join (de_str) (de_comp (own := [("turn", 5)]) (by rfl) sc_law.nd (dl_rng1 (by rfl) T.n_range (da_cons (de_got (c := ⟨K, Tl a, B0, n⟩) (ok__law_pick T B) (by rfl) hr (by decide) (by rfl) (L2N.takes_of (by rfl) (by rfl) (by rfl) (by rfl)) (da_cons (de_var (pv 2)) (da_cons (de_int) (da_nil)))) (da_nil))) (blkOk_by (own := [("turn", 5)]) (N := N_law) (sc := (defScope s_law)) (by decide +kernel)) (g_name) (by decide) (fun _ _ _ _ _ => pg_name (i := 5) sc_law.nd (by rfl) (Or.inl rfl)) (fun _ _ _ _ _ => dts_nil) (fun _ _ _ _ _ => de_got (c := ⟨K, Tl a, B0, n⟩) (ok__law_chosen T B) (by rfl) hr (by decide) (by rfl) takesN (da_cons (de_var (pv 2)) (da_cons (de_lst (da_cons (de_str) (da_cons (de_str) (da_nil)))) (da_nil))))) (by rfl))) (dss_cons (ds_set (i := 10) sc_law.nd (by rfl) (Or.inl rfl) (de_sub (de_got (c := ⟨K, Tl a, B0, n⟩) (ok__law_pick T B) (by rfl) hr (by decide) (by rfl) (L2N.takes_of (by rfl) (by rfl) (by rfl) (by rfl)) (da_cons (de_var (pv 2)) (da_cons (de_int) (da_nil)))) (de_int))) (dss_cons (ds_if (PW.pt (dw_or (dt_cmp (o_ne (by rfl) hr.units) b_ne (de_got (c := ⟨K, Tl a, B0, n⟩) (ok_copy_behind T B) (by rfl) hr (by decide) (by rfl) (L2N.takes_of (by rfl) (by rfl) (by rfl) (by rfl)) (da_cons (de_var (pv 11)) (da_nil))) (de_got (c := ⟨K, Tl a, B0, n⟩) (ok__law_went T B) (by rfl) hr (by decide) (by rfl) (L2N.takes_of (by rfl) (by rfl) (by rfl) (by rfl)) (da_cons (de_var (pv 11)) (da_nil))) (nomark _)) (dw_or (dt_cmp (o_ne (by rfl) hr.units) b_ne (de_got (c := ⟨K, Tl a, B0, n⟩) (ok__law_went T B) (by rfl) hr (by decide) (by rfl) (L2N.takes_of (by rfl) (by rfl) (by rfl) (by rfl)) (da_cons (de_got (c := ⟨K, Tl a, B0, n⟩) (ok_look_to T B) (by rfl) hr (by decide) (by rfl) (L2N.takes_of (by rfl) (by rfl) (by rfl) (by rfl)) (da_cons (de_var (pv 10)) (da_nil))) (da_nil))) (de_var (pv 10)) (nomark _)) (dw_or1 (dt_cmp (o_ne (by rfl) hr.units) b_ne (de_callB call_len c_len (by rfl) T.n_len PySem.boot_len (da_cons (de_got (c := ⟨K, Tl a, B0, n⟩) (ok_look_to T B) (by rfl) hr (by decide) (by rfl) (L2N.takes_of (by rfl) (by rfl) (by rfl) (by rfl)) (da_cons (de_var (pv 10)) (da_nil))) (da_nil))) (de_callB call_abs c_abs (by rfl) T.n_abs PyProof.Rows.boot_abs (da_cons (de_var (pv 10)) (da_nil))) (nomark _)))))) (dss_one (ds_ret (de_bl))) (dss_nil)) (dss_one (ds_if (dt_not (dt_val (de_got (c := ⟨K, Tl a, B0, n⟩) (ok__law_refusals T B) (by rfl) hr (by decide) (by rfl) (L2N.takes_of (by rfl) (by rfl) (by rfl) (by rfl)) (da_cons (de_var (pv 3)) (da_cons (de_var (pv 7)) (da_nil)))))) (dss_one (ds_ret (de_bl))) (dss_nil)))))))))))))))) (dss_cons (ds_if (PW.pt (dw_or (dt_val (de_got (c := ⟨K, Tl a, B0, n⟩) (ok_is_wedge T B) (by rfl) hr (by decide) (by rfl) (L2N.takes_of (by rfl) (by rfl) (by rfl) (by rfl)) (da_cons (de_tup (da_cons (de_int) (da_cons (de_int) (da_cons (de_tup (da_cons (de_tup (da_cons (de_int) (da_cons (de_int) (da_nil)))) (da_cons (de_tup (da_cons (de_int) (da_cons (de_int) (da_nil)))) (da_nil)))) (da_nil))))) (da_nil)))) (dw_or1 (dt_cmp (o_ne (by rfl) hr.units) b_ne (de_lst (da_cons (de_got (c := ⟨K, Tl a, B0, n⟩) (ok_copy_behind T B) (by rfl) hr (by decide) (by rfl) (L2N.takes_of (by rfl) (by rfl) (by rfl) (by rfl)) (da_cons (de_str) (da_nil))) (da_cons (de_got (c := ⟨K, Tl a, B0, n⟩) (ok_copy_behind T B) (by rfl) hr (by decide) (by rfl) (L2N.takes_of (by rfl) (by rfl) (by rfl) (by rfl)) (da_cons (de_str) (da_nil))) (da_cons (de_got (c := ⟨K, Tl a, B0, n⟩) (ok_copy_behind T B) (by rfl) hr (by decide) (by rfl) (L2N.takes_of (by rfl) (by rfl) (by rfl) (by rfl)) (da_cons (de_str) (da_nil))) (da_nil))))) (de_lst (da_cons (de_int) (da_cons (de_neg (de_int)) (da_cons (de_int) (da_nil))))) (nomark _))))) (dss_one (ds_ret (de_bl))) (dss_nil)) (dss_one (ds_ret (de_and (de_cmpR (o_eq (by rfl) hr.units) b_eq (de_got (c := ⟨K, Tl a, B0, n⟩) (ok_look_to T B) (by rfl) hr (by decide) (by rfl) (L2N.takes_of (by rfl) (by rfl) (by rfl) (by rfl)) (da_cons (de_neg (de_int)) (da_nil))) (de_str) (nomark _)) (de_and (de_cmpR (o_eq (by rfl) hr.units) b_eq (de_got (c := ⟨K, Tl a, B0, n⟩) (ok_look_to T B) (by rfl) hr (by decide) (by rfl) (L2N.takes_of (by rfl) (by rfl) (by rfl) (by rfl)) (da_cons (de_int) (da_nil))) (de_str) (nomark _)) (de_one (de_cmpR (o_eq (by rfl) hr.units) b_eq (de_got (c := ⟨K, Tl a, B0, n⟩) (ok_angle T B) (by rfl) hr (by decide) (by rfl) (L2N.takes_of (by rfl) (by rfl) (by rfl) (by rfl)) (da_cons (de_tup (da_cons (de_int) (da_cons (de_int) (da_cons (de_tup (da_cons (de_tup (da_cons (de_int) (da_cons (de_int) (da_nil)))) (da_nil))) (da_nil))))) (da_cons (de_int) (da_cons (de_neg (de_pow (de_int) (de_int))) (da_nil))))) (de_sub (de_int) (de_mul (de_int) (de_pow (de_int) (de_int)))) (nomark _))))))))
end
end K01

namespace K01
open PySem PySem.Spec PyProof.Rows L2 Dl
/-! ### is_within -/
def within (d : D) (lo hi : Int) : Bool := match d with
  | .int i => decide (lo ≤ i) && decide (i ≤ hi)
  | _ => false
@[simp] theorem within_i {i lo hi : Int} : within (.int i) lo hi = (decide (lo ≤ i) && decide (i ≤ hi)) := rfl
theorem f_within (a : Ad) (d : D) (lo hi : Int) (μ : Mu) (h : (tyName d).isSome = true) : F_is_within a [.val d, .val (.int lo), .val (.int hi)] μ = .ok (.val (.bl (within d lo hi))) μ := by
  unfold F_is_within B_is_within
  cases d with
  | int i => by_cases h1 : lo ≤ i <;> by_cases h2 : i ≤ hi <;> simp [h1, h2]
  | fn _ => cases h
  | ty _ => cases h
  | clo _ _ => cases h
  | _ => simp [within]
/-- data without defs, types, dicts -/
inductive Pl : D → Prop
  | non : Pl .non
  | bl (b : Bool) : Pl (.bl b)
  | int (i : Int) : Pl (.int i)
  | str (x : Str) : Pl (.str x)
  | tup {xs : List D} (h : ∀ d, d ∈ xs → Pl d) : Pl (.tup xs)
  | lst {xs : List D} (h : ∀ d, d ∈ xs → Pl d) : Pl (.lst xs)
theorem Pl.ty {d : D} (h : Pl d) : (tyName d).isSome = true := by cases h <;> rfl
def isMark (d : D) : Bool := match d with
  | .tup [x, y] => within x 1 11 && within y 0 2
  | _ => false
theorem f_is_mark (a : Ad) (d : D) (μ : Mu) (h : Pl d) : F_is_mark a [.val d] μ = .ok (.val (.bl (isMark d))) μ := by
  unfold F_is_mark B_is_mark
  cases h with
  | tup h =>
    rename_i xs
    match xs, h with
    | [], _ => simp [isMark]
    | [x], _ => simp [isMark]
    | [x, y], h =>
      have hx := (h x (by simp)).ty
      have hy := (h y (by simp)).ty
      simp [f_within, hx, hy]
      cases e : within x 1 11 <;> simp [isMark, e]
    | x :: y :: z :: r, _ =>
      simp [isMark]
      rw [if_neg (by omega)]
      simp
  | _ => simp [isMark]
/-- the marks rise, behind one at p -/
def marksB : Option Int → List D → Bool
  | _, [] => true
  | p, d :: r => isMark d && (match d with
    | .tup (.int x :: _) => (match p with | none => true | some q => decide (q < x)) && marksB (some x) r
    | _ => false)
def rightW (d : D) : Bool := match d with
  | .tup [x, y, .tup ms] => within x 1 6 && within y 1 11 && decide (ms.length ≤ 5) && marksB none ms
  | _ => false
theorem isMark_of {d : D} (h : isMark d = true) : ∃ x c, d = .tup [.int x, .int c] ∧ 1 ≤ x ∧ x ≤ 11 ∧ 0 ≤ c ∧ c ≤ 2 := by
  unfold isMark at h
  split at h
  · rename_i x y
    cases x with
    | int x =>
      cases y with
      | int y => simp at h; exact ⟨x, y, rfl, by omega⟩
      | _ => simp [within] at h
    | _ => simp [within] at h
  · cases h
theorem forL_cons {tg : TgF} {body : SF} {d : D} {ds : List D} {s : Sl} {μ : Mu} : forL tg body (d :: ds) s μ = match tg d s with
    | none => .bad
    | some s1 => match body s1 μ with
      | .nx s2 μ2 => forL tg body ds s2 μ2
      | .ct s2 μ2 => forL tg body ds s2 μ2
      | .bk s2 μ2 => .nx s2 μ2
      | .rt r μ2 => .rt r μ2
      | .exc C s2 μ2 => .exc C s2 μ2
      | .bad => .bad := rfl
theorem forL_nil {tg : TgF} {body : SF} {s : Sl} {μ : Mu} : forL tg body [] s μ = .nx s μ := rfl
/-- the first place of the last of these -/
def lastP : List D → Option Int
  | [] => none
  | d :: r => match lastP r with
    | some p => some p
    | none => match d with
      | .tup (.int p :: _) => some p
      | _ => none
theorem right_loop (a : Ad) (v : D) (x y : D) (ms : List D) (hv : v = .tup [x, y, .tup ms]) (μ : Mu) : ∀ (rest pre : List D) (s1 s2 : Option R), ms = pre ++ rest → (∀ d ∈ rest, Pl d) → (∀ i, pre.length = i + 1 → ∃ p c, pre[i]? = some (.tup [.int p, .int c])) →
    let p : Option Int := (pre.getLast?).bind fun d => match d with | .tup (.int p :: _) => some p | _ => none
    (marksB p rest = true → ∃ t1 t2, forL (tgTup 2 (tgCons (tgName 1) (tgCons (tgName 2) (tgNil)))) (sIf (tOrF (tNotF (tOf (eFn 1 (F_is_mark a) (aCons (eVarN 2) (aNil))))) (tAndF (tOf (eBin gtD (eVarN 1) (eC (.int 0)))) (tOf (eBin leD (eBin ixD (eVarN 2) (eC (.int 0))) (eBin ixD (eBin ixD (eBin ixD (eVarN 0) (eC (.int 2))) (eBin subD (eVarN 1) (eC (.int 1)))) (eC (.int 0))))))) (sRet (eC (.bl false))) (sPass)) (enumD pre.length rest) [some (.val v), s1, s2] μ = .nx [some (.val v), t1, t2] μ) ∧
    (marksB p rest = false → forL (tgTup 2 (tgCons (tgName 1) (tgCons (tgName 2) (tgNil)))) (sIf (tOrF (tNotF (tOf (eFn 1 (F_is_mark a) (aCons (eVarN 2) (aNil))))) (tAndF (tOf (eBin gtD (eVarN 1) (eC (.int 0)))) (tOf (eBin leD (eBin ixD (eVarN 2) (eC (.int 0))) (eBin ixD (eBin ixD (eBin ixD (eVarN 0) (eC (.int 2))) (eBin subD (eVarN 1) (eC (.int 1)))) (eC (.int 0))))))) (sRet (eC (.bl false))) (sPass)) (enumD pre.length rest) [some (.val v), s1, s2] μ = .rt (.val (.bl false)) μ) := by
  intro rest
  induction rest with
  | nil => intro pre s1 s2 _ _ _; exact ⟨fun _ => ⟨s1, s2, rfl⟩, fun h => by simp [marksB] at h⟩
  | cons d r ih =>
    intro pre s1 s2 e hp hl
    have hd := hp d (by simp)
    simp only [enumD, forL_cons, tgTup, tgCons, tgName, tgNil]
    simp
    cases hm : isMark d with
    | false => simp [f_is_mark, hd, hm, marksB]
    | true =>
      obtain ⟨px, pc, rfl, _⟩ := isMark_of hm
      have step := ih (pre ++ [.tup [.int px, .int pc]]) (some (.val (.int pre.length))) (some (.val (.tup [.int px, .int pc]))) (by rw [e]; simp) (fun q hq => hp q (by simp [hq])) (fun i hi => by
        have : i = pre.length := by simpa using hi.symm
        subst this
        exact ⟨px, pc, by simp⟩)
      simp at step
      simp [f_is_mark, hd, hm]
      by_cases hz : pre = []
      · subst hz
        simp at step ⊢
        simp [marksB, hm]
        exact step
      · obtain ⟨i, hi⟩ : ∃ i, pre.length = i + 1 := ⟨pre.length - 1, by have := List.length_pos_iff.mpr hz; omega⟩
        obtain ⟨p, c, hpc⟩ := hl i hi
        have e1 : atI ms ((pre.length : Int) - 1) = some (.tup [.int p, .int c]) := by
          rw [show ((pre.length : Int) - 1) = ((i : Nat) : Int) by omega, atI_nat0, e, List.getElem?_append_left (by omega)]
          exact hpc
        have e2 : pre.getLast? = some (.tup [.int p, .int c]) := by
          rw [List.getLast?_eq_getElem?, hi]; simpa using hpc
        subst hv
        have hpos : 0 < pre.length := by omega
        simp [hpos, e1, e2]
        by_cases hlt : px ≤ p
        · simp [hlt, marksB, hm, show ¬ p < px by omega]
        · simp [hlt, marksB, hm, show p < px by omega]
          exact step
theorem f_right (a : Ad) (d : D) (μ : Mu) (h : Pl d) : F_is_right_wedge a [.val d] μ = .ok (.val (.bl (rightW d))) μ := by
  unfold F_is_right_wedge B_is_right_wedge
  cases h with
  | tup h =>
    rename_i xs
    match xs, h with
    | [], _ => simp [rightW]
    | [x], _ => simp [rightW]
    | [x, y], h => simp [rightW]
    | x :: y :: z :: w :: r, _ =>
      simp [rightW]
      rw [if_neg (by omega)]
      simp
    | [x, y, z], h =>
      have hx := (h x (by simp)).ty
      have hy := (h y (by simp)).ty
      have hz := h z (by simp)
      simp [f_within, hx, hy]
      cases e1 : within x 1 6
      · cases hz <;> simp [rightW, e1]
      · simp
        cases e2 : within y 1 11
        · cases hz <;> simp [rightW, e1, e2, f_within, hy]
        · simp [f_within, hy, e2]
          cases hz with
          | tup hms =>
            rename_i ms
            simp
            by_cases hlen : ms.length ≤ 5
            · simp [show ¬ (5 : Int) < ms.length by omega]
              have L := right_loop a (.tup [x, y, .tup ms]) x y ms rfl μ ms [] none none rfl hms (fun i hi => by simp at hi)
              simp at L
              cases e3 : marksB none ms with
              | true =>
                obtain ⟨t1, t2, L⟩ := L.1 e3
                simp [L, rightW, e1, e2, e3, hlen]
              | false => simp [L.2 e3, rightW, e1, e2, e3]
            · simp [show (5 : Int) < ms.length by omega, rightW, hlen]
          | _ => simp [rightW]
  | _ => simp [rightW]
/-! ### wedges -/
structure Wd where
  part : Int
  eye : Int
  marks : List (Int × Int)
def mkD (p : Int × Int) : D := .tup [.int p.1, .int p.2]
def wD (w : Wd) : D := .tup [.int w.part, .int w.eye, .tup (w.marks.map mkD)]
@[simp] theorem w_ix0 {w : Wd} {μ : Mu} : ixD (wD w) (.int 0) μ = .ok (.val (.int w.part)) μ := (rfl)
@[simp] theorem w_ix1 {w : Wd} {μ : Mu} : ixD (wD w) (.int 1) μ = .ok (.val (.int w.eye)) μ := (rfl)
@[simp] theorem w_ix2 {w : Wd} {μ : Mu} : ixD (wD w) (.int 2) μ = .ok (.val (.tup (w.marks.map mkD))) μ := (rfl)
structure Wd.Ok (w : Wd) : Prop where
  p1 : 1 ≤ w.part
  p6 : w.part ≤ 6
  e1 : 1 ≤ w.eye
  e11 : w.eye ≤ 11
  len : w.marks.length ≤ 5
  ms : ∀ m ∈ w.marks, 1 ≤ m.1 ∧ m.1 ≤ 11 ∧ 0 ≤ m.2 ∧ m.2 ≤ 2
  up : w.marks.Pairwise fun a b => a.1 < b.1
theorem pl_mk (p : Int × Int) : Pl (mkD p) := .tup fun d hd => by
  simp at hd; rcases hd with rfl | rfl <;> exact .int _
theorem pl_w (w : Wd) : Pl (wD w) := .tup fun d hd => by
  simp at hd
  rcases hd with rfl | rfl | rfl
  · exact .int _
  · exact .int _
  · exact .tup fun d hd => by
      obtain ⟨m, _, rfl⟩ := List.mem_map.mp hd
      exact pl_mk m
theorem marksB_c (p : Option Int) (m : Int × Int) (r : List D) : marksB p (mkD m :: r) = (isMark (mkD m) && ((match p with | none => true | some q => decide (q < m.1)) && marksB (some m.1) r)) := rfl
theorem marksB_ok : ∀ (ms : List (Int × Int)) (p : Option Int), (∀ m ∈ ms, 1 ≤ m.1 ∧ m.1 ≤ 11 ∧ 0 ≤ m.2 ∧ m.2 ≤ 2) → ms.Pairwise (fun a b => a.1 < b.1) → (∀ q, p = some q → ∀ m ∈ ms, q < m.1) → marksB p (ms.map mkD) = true
  | [], _, _, _, _ => rfl
  | m :: ms, p, h, hp, hq => by
    obtain ⟨h1, h2⟩ := List.pairwise_cons.mp hp
    have hm := h m (by simp)
    have ih := marksB_ok ms (some m.1) (fun x hx => h x (by simp [hx])) h2 (fun q e x hx => by cases e; exact h1 x hx)
    rw [List.map_cons, marksB_c, ih, Bool.and_true, Bool.and_eq_true]
    refine ⟨by simp [isMark, mkD]; omega, ?_⟩
    cases p with
    | none => rfl
    | some q => simpa using hq q rfl m (by simp)
theorem right_w {w : Wd} (h : w.Ok) : rightW (wD w) = true := by
  have := h.p1; have := h.p6; have := h.e1; have := h.e11; have := h.len
  simp [rightW, wD, marksB_ok w.marks none h.ms h.up (fun q e => by cases e)]
  omega
theorem f_need_wedge (a : Ad) (d : D) (μ : Mu) (h : Pl d) : F_need_wedge a [.val d] μ = if rightW d = true then .ok (.val .non) μ else .exc a.InvalidWedge μ := by
  unfold F_need_wedge B_need_wedge
  simp [f_right, h]
  cases rightW d <;> simp
/-! ### the places that come again -/
def upL : Nat → List (Int × Int) → List (Int × Nat × Int)
  | _, [] => []
  | i, m :: r => (m.1, i, 0) :: upL (i + 1) r
def dnL : Nat → List (Int × Int) → List (Int × Nat × Int)
  | _, [] => []
  | i, m :: r => (24 - m.1, i, 1) :: dnL (i + 1) r
def restsL (ms : List (Int × Int)) : List (Int × Nat × Int) := upL 0 ms ++ (dnL 0 ms).reverse
def r3D (t : Int × Nat × Int) : D := .tup [.int t.1, .int t.2.1, .int t.2.2]
theorem upL_len : ∀ (ms : List (Int × Int)) (i : Nat), (upL i ms).length = ms.length
  | [], _ => rfl
  | _ :: r, i => by rw [upL, List.length_cons, upL_len r]; rfl
theorem dnL_len : ∀ (ms : List (Int × Int)) (i : Nat), (dnL i ms).length = ms.length
  | [], _ => rfl
  | _ :: r, i => by rw [dnL, List.length_cons, dnL_len r]; rfl
theorem upL_mem : ∀ (ms : List (Int × Int)) (i : Nat) {t}, t ∈ upL i ms → ∃ m ∈ ms, t.1 = m.1
  | [], _, t, h => by cases h
  | m :: r, i, t, h => by
    rcases List.mem_cons.mp h with rfl | h
    · exact ⟨m, by simp, rfl⟩
    · obtain ⟨m', h1, h2⟩ := upL_mem r (i + 1) h
      exact ⟨m', by simp [h1], h2⟩
theorem dnL_mem : ∀ (ms : List (Int × Int)) (i : Nat) {t}, t ∈ dnL i ms → ∃ m ∈ ms, t.1 = 24 - m.1
  | [], _, t, h => by cases h
  | m :: r, i, t, h => by
    rcases List.mem_cons.mp h with rfl | h
    · exact ⟨m, by simp, rfl⟩
    · obtain ⟨m', h1, h2⟩ := dnL_mem r (i + 1) h
      exact ⟨m', by simp [h1], h2⟩
theorem upL_up : ∀ (ms : List (Int × Int)) (i : Nat), ms.Pairwise (fun a b => a.1 < b.1) → (upL i ms).Pairwise fun a b => a.1 < b.1
  | [], _, _ => .nil
  | m :: r, i, h => by
    obtain ⟨h1, h2⟩ := List.pairwise_cons.mp h
    refine List.pairwise_cons.mpr ⟨fun t ht => ?_, upL_up r (i + 1) h2⟩
    obtain ⟨m', h3, h4⟩ := upL_mem r _ ht
    rw [h4]; exact h1 m' h3
theorem dnL_dn : ∀ (ms : List (Int × Int)) (i : Nat), ms.Pairwise (fun a b => a.1 < b.1) → (dnL i ms).Pairwise fun a b => b.1 < a.1
  | [], _, _ => .nil
  | m :: r, i, h => by
    obtain ⟨h1, h2⟩ := List.pairwise_cons.mp h
    refine List.pairwise_cons.mpr ⟨fun t ht => ?_, dnL_dn r (i + 1) h2⟩
    obtain ⟨m', h3, h4⟩ := dnL_mem r _ ht
    have := h1 m' h3
    show t.1 < 24 - m.1
    omega
theorem restsL_up {ms : List (Int × Int)} (hm : ∀ m ∈ ms, 1 ≤ m.1 ∧ m.1 ≤ 11) (h : ms.Pairwise fun a b => a.1 < b.1) : (restsL ms).Pairwise fun a b => a.1 < b.1 := by
  refine List.pairwise_append.mpr ⟨upL_up ms 0 h, List.pairwise_reverse.mpr (dnL_dn ms 0 h), fun a ha b hb => ?_⟩
  obtain ⟨m, h1, h2⟩ := upL_mem ms _ ha
  obtain ⟨m', h3, h4⟩ := dnL_mem ms _ (List.mem_reverse.mp hb)
  have := hm m h1
  have := hm m' h3
  omega
def enU : D → D
  | .tup [.int i, .tup [.int p, .int _]] => .tup [.int p, .int i, .int 0]
  | _ => .non
def enD : D → D
  | .tup [.int i, .tup [.int p, .int _]] => .tup [.int (24 - p), .int i, .int 1]
  | _ => .non
theorem enum_up : ∀ (ms : List (Int × Int)) (i : Nat), (enumD i (ms.map mkD)).map enU = (upL i ms).map r3D
  | [], _ => rfl
  | m :: r, i => by
    rw [List.map_cons, enumD, List.map_cons, enum_up r (i + 1), upL, List.map_cons]; rfl
theorem enum_dn : ∀ (ms : List (Int × Int)) (i : Nat), (enumD i (ms.map mkD)).map enD = (dnL i ms).map r3D
  | [], _ => rfl
  | m :: r, i => by
    rw [List.map_cons, enumD, List.map_cons, enum_dn r (i + 1), dnL, List.map_cons]; rfl
theorem enum_mem : ∀ (ms : List (Int × Int)) (i : Nat) {d : D}, d ∈ enumD i (ms.map mkD) → ∃ (j : Nat) (m : Int × Int), m ∈ ms ∧ d = .tup [.int j, mkD m]
  | [], _, d, h => by cases h
  | m :: r, i, d, h => by
    rw [List.map_cons, enumD] at h
    rcases List.mem_cons.mp h with rfl | h
    · exact ⟨i, m, by simp, rfl⟩
    · obtain ⟨j, m', h1, h2⟩ := enum_mem r (i + 1) h
      exact ⟨j, m', by simp [h1], h2⟩
theorem r3_toPy (t : Int × Nat × Int) : toPy (r3D t) = some (.tuple [.int t.1, .int t.2.1, .int t.2.2]) := by simp [r3D, toPy, toPys]
theorem sortOk_r3 (xs : List (Int × Nat × Int)) : sortOk (xs.map r3D) = true :=
  sortOk_rows r3D (fun t => .tuple [.int t.1, .int t.2.1, .int t.2.2]) xs (fun t _ => r3_toPy t) (fun t _ => by simp [PyData.depth, PyData.depthAll]) (fun t _ => rfl) (fun t _ u _ => by simp [PySem.W.alike, PySem.W.alikeAll])
/-! ### the row that comes again -/
def restC (ms : List (Int × Int)) : List (Int × Int) := ms ++ (ms.map fun m => (24 - m.1, m.2)).reverse
theorem restC_len (ms : List (Int × Int)) : (restC ms).length = 2 * ms.length := by simp [restC]; omega
theorem up_fst : ∀ (ms : List (Int × Int)) (i : Nat), (upL i ms).map (·.1) = ms.map (·.1)
  | [], _ => rfl
  | m :: r, i => by rw [upL, List.map_cons, List.map_cons, up_fst r]
theorem dn_fst : ∀ (ms : List (Int × Int)) (i : Nat), (dnL i ms).map (·.1) = (ms.map fun m => (24 - m.1, m.2)).map (·.1)
  | [], _ => rfl
  | m :: r, i => by rw [dnL, List.map_cons, List.map_cons, List.map_cons, dn_fst r]
theorem rests_fst (ms : List (Int × Int)) : (restsL ms).map (·.1) = (restC ms).map (·.1) := by
  rw [restsL, restC, List.map_append, List.map_append, List.map_reverse, List.map_reverse, up_fst, dn_fst]
/-- the colour that a place of the row has -/
def colAt (ms : List (Int × Int)) (i : Nat) : Int := (ms[i]?.getD (0, 0)).2
theorem up_col (all : List (Int × Int)) : ∀ (ms pre : List (Int × Int)), all = pre ++ ms → (upL pre.length ms).map (fun t => colAt all t.2.1) = ms.map (·.2)
  | [], _, _ => rfl
  | m :: r, pre, e => by
    have ih := up_col all r (pre ++ [m]) (by rw [e]; simp)
    rw [List.length_append, List.length_singleton] at ih
    rw [upL, List.map_cons, List.map_cons, ih]
    simp [colAt, e]
theorem dn_col (all : List (Int × Int)) : ∀ (ms pre : List (Int × Int)), all = pre ++ ms → (dnL pre.length ms).map (fun t => colAt all t.2.1) = ms.map (·.2)
  | [], _, _ => rfl
  | m :: r, pre, e => by
    have ih := dn_col all r (pre ++ [m]) (by rw [e]; simp)
    rw [List.length_append, List.length_singleton] at ih
    rw [dnL, List.map_cons, List.map_cons, ih]
    simp [colAt, e]
theorem rests_col (ms : List (Int × Int)) : (restsL ms).map (fun t => colAt ms t.2.1) = (restC ms).map (·.2) := by
  have h1 := up_col ms ms [] rfl
  have h2 := dn_col ms ms [] rfl
  rw [restsL, restC, List.map_append, List.map_append, List.map_reverse, List.map_reverse]
  rw [show (0 : Nat) = ([] : List (Int × Int)).length from rfl, h1, h2, List.map_map]; rfl
theorem upL_ix : ∀ (ms : List (Int × Int)) (i : Nat) {t}, t ∈ upL i ms → t.2.1 < i + ms.length
  | [], _, t, h => by cases h
  | m :: r, i, t, h => by
    rcases List.mem_cons.mp h with rfl | h
    · simp
    · have := upL_ix r (i + 1) h; simp; omega
theorem dnL_ix : ∀ (ms : List (Int × Int)) (i : Nat) {t}, t ∈ dnL i ms → t.2.1 < i + ms.length
  | [], _, t, h => by cases h
  | m :: r, i, t, h => by
    rcases List.mem_cons.mp h with rfl | h
    · simp
    · have := dnL_ix r (i + 1) h; simp; omega
theorem rests_ix {ms : List (Int × Int)} {t} (h : t ∈ restsL ms) : t.2.1 < ms.length := by
  rcases List.mem_append.mp h with h | h
  · simpa using upL_ix ms 0 h
  · simpa using dnL_ix ms 0 (List.mem_reverse.mp h)
/-- the sign of a colour -/
def dig (c : Int) : Str := txt [48 + c.toNat]
theorem str_dig {c : Int} (μ : Mu) (h0 : 0 ≤ c) (h2 : c ≤ 2) : strD (.int c) μ = .ok (.val (.str (dig c))) μ := by
  have : c = 0 ∨ c = 1 ∨ c = 2 := by omega
  rcases this with rfl | rfl | rfl <;> rfl
/-- the endless row: the i-th place, its colour -/
def pl (ms : List (Int × Int)) (i : Nat) : Int := ((restC ms)[i % (2 * ms.length)]?.getD (0, 0)).1 + 24 * ((i / (2 * ms.length) : Nat) : Int)
def co (ms : List (Int × Int)) (i : Nat) : Int := ((restC ms)[i % (2 * ms.length)]?.getD (0, 0)).2
theorem restC_at {ms : List (Int × Int)} (i : Nat) (h : ms ≠ []) : ∃ p, (restC ms)[i % (2 * ms.length)]? = some p := by
  have : 0 < ms.length := List.length_pos_iff.mpr h
  exact ⟨_, List.getElem?_eq_getElem (by rw [restC_len]; exact Nat.mod_lt _ (by omega))⟩
theorem restC_mem {ms : List (Int × Int)} (hm : ∀ m ∈ ms, 1 ≤ m.1 ∧ m.1 ≤ 11 ∧ 0 ≤ m.2 ∧ m.2 ≤ 2) {p} (h : p ∈ restC ms) : 1 ≤ p.1 ∧ p.1 ≤ 23 ∧ 0 ≤ p.2 ∧ p.2 ≤ 2 := by
  rcases List.mem_append.mp h with h | h
  · have := hm p h; omega
  · obtain ⟨m, h1, rfl⟩ := List.mem_map.mp (List.mem_reverse.mp h)
    have := hm m h1
    simp; omega
theorem co_ok {ms : List (Int × Int)} (hm : ∀ m ∈ ms, 1 ≤ m.1 ∧ m.1 ≤ 11 ∧ 0 ≤ m.2 ∧ m.2 ≤ 2) (i : Nat) (h : ms ≠ []) : 0 ≤ co ms i ∧ co ms i ≤ 2 := by
  obtain ⟨p, hp⟩ := restC_at i h
  have := restC_mem hm (List.mem_of_getElem? hp)
  simp [co, hp]; omega
def wordAt (ms : List (Int × Int)) (at' len : Nat) : List Int := (List.range len).map fun k => co ms (at' + k)
/-- a word as a text -/
def wS (ds : List Int) : Str := txt (ds.map fun c => 48 + c.toNat)
theorem wS_inj {xs ys : List Int} (h1 : ∀ c ∈ xs, 0 ≤ c) (h2 : ∀ c ∈ ys, 0 ≤ c) : wS xs = wS ys ↔ xs = ys := by
  unfold wS
  rw [txt_inj]
  constructor
  · intro h
    induction xs generalizing ys with
    | nil => cases ys with
      | nil => rfl
      | cons _ _ => simp at h
    | cons x xs ih => cases ys with
      | nil => simp at h
      | cons y ys =>
        simp at h
        have := h1 x (by simp)
        have := h2 y (by simp)
        rw [show x = y by omega, ih (fun c hc => h1 c (by simp [hc])) (fun c hc => h2 c (by simp [hc])) h.2]
  · rintro rfl; rfl
def matchL (ms : List (Int × Int)) (ds : List Int) : List (Int × Int) :=
  ((List.range (2 * ms.length)).filter fun i => wordAt ms i ds.length == ds).map fun i => (pl ms i, pl ms (i + ds.length - 1) - pl ms i)
structure WordOk (ds : List Int) : Prop where
  ne : 1 ≤ ds.length
  le : ds.length ≤ 6
  dg : ∀ c ∈ ds, 0 ≤ c ∧ c ≤ 2
theorem wS_len (ds : List Int) : (wS ds).length = ds.length := by simp [wS]
theorem asStrs_dig : ∀ cs : List Int, asStrs (cs.map fun c => .str (dig c)) = some (cs.map dig)
  | [] => rfl
  | c :: cs => by rw [List.map_cons, asStrs, asStrs_dig cs]; rfl
theorem join_dig (cs : List Int) : Txt.join (txt []) (cs.map dig) = wS cs := by
  have := join_t (cs.map fun c => [48 + c.toNat])
  rw [List.map_map] at this
  rw [show (cs.map dig) = cs.map (txt ∘ fun c => [48 + c.toNat]) from rfl, this, wS]
  congr 1
  induction cs with
  | nil => rfl
  | cons c cs ih => simpa using ih (by have := join_t (cs.map fun c => [48 + c.toNat]); rwa [List.map_map] at this)
theorem sum_ones : ∀ cs : List Int, ((cs.map dig).map (·.length)).sum = cs.length
  | [] => rfl
  | c :: cs => by rw [List.map_cons, List.map_cons, List.sum_cons, sum_ones cs]; simp [dig]; omega
theorem rest_ix {ms : List (Int × Int)} (h : ms ≠ []) (i : Nat) (f : Int × Int → D) : atI ((restC ms).map f) ((i : Int) % ((2 * ms.length : Nat) : Int)) = some (f ((restC ms)[i % (2 * ms.length)]?.getD (0, 0))) := by
  rw [show ((i : Int) % ((2 * ms.length : Nat) : Int)) = ((i % (2 * ms.length) : Nat) : Int) by simp, atI_nat0, List.getElem?_map]
  obtain ⟨p, hp⟩ := restC_at i h
  rw [hp]; rfl
theorem rng_map (n : Nat) (f : Nat → D) (g : D → D) (h : ∀ i : Nat, g (.int i) = f i) : (rngD 0 n).map g = (List.range n).map f := by
  unfold rngD
  rw [List.map_map]
  refine List.map_congr_left fun i _ => ?_
  show g (.int (0 + (i : Int))) = f i
  rw [Int.zero_add, h]
theorem join_word (cs : List Int) (hl : cs.length ≤ 1000) (μ : Mu) : joinD (.str (Str.ofString "")) (.lst (cs.map fun c => .str (dig c))) μ = .ok (.val (.str (wS cs))) μ := by
  have e : Txt.join (Str.ofString "") (cs.map dig) = wS cs := join_dig cs
  rw [joinD_s, asStrs_dig]
  dsimp only
  rw [if_pos, e]
  rw [sum_ones, show (Str.ofString "").length = 0 from rfl]
  omega
/-! ### what is drawn -/
/-- a source at j -/
def Src (μ : Mu) (j : Nat) : Prop := ∃ b st : Int, μ[j]? = some (.lst [.int b, .int st]) ∧ 0 ≤ b ∧ 0 ≤ st ∧ st ≤ 4294967296
/-- the same but for the source -/
def Nxt (μ : Mu) (j : Nat) (μ' : Mu) : Prop := (∃ x, μ' = μ.set j x) ∧ Src μ' j
theorem Src.lt {μ : Mu} {j : Nat} (h : Src μ j) : j < μ.length := by
  obtain ⟨b, st, h, _⟩ := h
  exact (List.getElem?_eq_some_iff.mp h).1
theorem Nxt.refl {μ : Mu} {j : Nat} (h : Src μ j) : Nxt μ j μ := by
  refine ⟨?_, h⟩
  obtain ⟨b, st, e, _⟩ := h
  obtain ⟨h1, h2⟩ := List.getElem?_eq_some_iff.mp e
  exact ⟨μ[j], by simp⟩
theorem Nxt.trans {μ μ1 μ2 : Mu} {j : Nat} (h : Nxt μ j μ1) (k : Nxt μ1 j μ2) : Nxt μ j μ2 := by
  obtain ⟨⟨x, rfl⟩, _⟩ := h
  obtain ⟨⟨y, rfl⟩, s⟩ := k
  exact ⟨⟨y, by simp⟩, s⟩
theorem Nxt.len {μ μ1 : Mu} {j : Nat} (h : Nxt μ j μ1) : μ1.length = μ.length := by
  obtain ⟨⟨x, rfl⟩, _⟩ := h; simp
theorem Nxt.get {μ μ1 : Mu} {j i : Nat} (h : Nxt μ j μ1) (hi : i ≠ j) : μ1[i]? = μ[i]? := by
  obtain ⟨⟨x, rfl⟩, _⟩ := h
  rw [List.getElem?_set_ne (Ne.symm hi)]
theorem Src.app {μ : Mu} {j : Nat} (h : Src μ j) (m : MO) : Src (μ ++ [m]) j := by
  obtain ⟨b, st, e, r⟩ := h
  exact ⟨b, st, get_app e, r⟩
theorem Nxt.app {μ : Mu} {j : Nat} {m : MO} {μ1 : Mu} (hj : j < μ.length) (h : Nxt (μ ++ [m]) j μ1) : ∃ μ2, μ1 = μ2 ++ [m] ∧ Nxt μ j μ2 := by
  obtain ⟨⟨x, rfl⟩, s⟩ := h
  have e : (μ ++ [m]).set j x = μ.set j x ++ [m] := by rw [List.set_append_left _ _ hj]
  rw [e] at s ⊢
  refine ⟨_, rfl, ⟨x, rfl⟩, ?_⟩
  obtain ⟨b, st, e1, r⟩ := s
  rw [List.getElem?_append_left (by simpa using hj)] at e1
  exact ⟨b, st, e1, r⟩
theorem f_pick (a : Ad) {μ : Mu} {j : Nat} (many : Int) (h : Src μ j) (h0 : 0 < many) (h1 : many < 340282366920938463463374607431768211456) :
    ∃ (r : Int) (μ' : Mu), F__law_pick a [.obj j, .val (.int many)] μ = .ok (.val (.int r)) μ' ∧ 0 ≤ r ∧ r < many ∧ Nxt μ j μ' := by
  unfold F__law_pick B__law_pick
  obtain ⟨b, st, e, hb, hs, hs2⟩ := h
  have hj : j < μ.length := (List.getElem?_eq_some_iff.mp e).1
  have hdv := divOk_l (b := many) ⟨h0, h1⟩
  by_cases hb0 : 0 < b
  · simp [two_ov e, hb0, h0, hdv, e, ixN]
    refine ⟨_, _, fin_v (by simp), Int.emod_nonneg _ (by omega), Int.emod_lt_of_pos _ h0, ⟨_, rfl⟩, b / many, st, by simp [hj], Int.ediv_nonneg hb (by omega), hs, hs2⟩
  · have e2 : (μ.set j (.lst [.int b, .int ((st * 44497 + 9973) % 2147483647)]))[j]? = some (.lst [.int b, .int ((st * 44497 + 9973) % 2147483647)]) := by simp [hj]
    have hm : ∀ x : Int, mulOk x 44497 = true := fun x => mulOk_r (by omega)
    have hq1 : 0 ≤ (st * 44497 + 9973) % 2147483647 := Int.emod_nonneg _ (by omega)
    have hq2 : (st * 44497 + 9973) % 2147483647 < 2147483647 := Int.emod_lt_of_pos _ (by omega)
    generalize hz : (st * 44497 + 9973) % 2147483647 = z at e2 hq1 hq2
    have hm2 : ∀ x : Int, mulOk z x = true := fun x => mulOk_l (by omega)
    simp [two_ov e, hb0, h0, hdv, e, ixN, hm, hz]
    simp [two_ov e2, hm2, h0]
    refine ⟨_, _, fin_v (by simp), Int.emod_nonneg _ (by omega), Int.emod_lt_of_pos _ h0, ⟨_, rfl⟩, b, z, e2, hb, hq1, by omega⟩
theorem f_chosen (a : Ad) {μ : Mu} {j : Nat} (xs : List D) (h : Src μ j) (h0 : xs ≠ []) (h1 : xs.length ≤ 1000) :
    ∃ (d : D) (μ' : Mu), F__law_chosen a [.obj j, .val (.lst xs)] μ = .ok (.val d) μ' ∧ d ∈ xs ∧ Nxt μ j μ' := by
  unfold F__law_chosen B__law_chosen
  have hl : 0 < xs.length := List.length_pos_iff.mpr h0
  obtain ⟨r, μ', e, r0, r1, n⟩ := f_pick a (xs.length : Int) h (by omega) (by omega)
  obtain ⟨k, rfl⟩ : ∃ k : Nat, r = k := ⟨r.toNat, by omega⟩
  have hk : k < xs.length := by omega
  simp [e, atI_nat0, List.getElem?_eq_getElem hk]
  exact ⟨_, _, fin_v n.len.symm, List.getElem_mem hk, n⟩
theorem f_chosenL (a : Ad) {μ : Mu} {j : Nat} (xs : List D) (h : Src μ j) (h0 : xs ≠ []) (h1 : xs.length ≤ 1000) :
    ∃ (d : D) (μ' : Mu), F__law_chosen a [.obj j, .newL xs] μ = .ok (.val d) μ' ∧ d ∈ xs ∧ Nxt μ j μ' := f_chosen a xs h h0 h1
theorem f_source (a : Ad) (ns : List Int) (k : Nat) (μ : Mu) (hk : k ≤ 1000) : ∃ b st : Int, F__law_source a [.val (.frl (ns.map .int)), .val (.int k)] μ = .ok (.newL [.int b, .int st]) μ ∧ 0 ≤ b ∧ 0 ≤ st ∧ st ≤ 4294967296 := by
  unfold F__law_source B__law_source
  have hz : ∀ x : Int, 0 ≤ x % 2147481173 ∧ x % 2147481173 < 2147481173 := fun x => ⟨Int.emod_nonneg _ (by omega), Int.emod_lt_of_pos _ (by omega)⟩
  have hy : ∀ x : Int, 0 ≤ x % 2147481151 ∧ x % 2147481151 < 2147481151 := fun x => ⟨Int.emod_nonneg _ (by omega), Int.emod_lt_of_pos _ (by omega)⟩
  have hm : ∀ x y : Int, mulOk (x % 2147481173) y = true := fun x y => mulOk_l (by have := hz x; omega)
  have hm2 : ∀ x : Int, mulOk x 16807 = true := fun x => mulOk_r (by omega)
  have done : ∀ n : Int, ∃ b st : Int, (if 1000000000000000000 ≤ n then n else 0) = b ∧ (n * 16807 + 60919 * (k : Int) + 31) % 2147481173 * ((n * 16807 + 60919 * (k : Int) + 31) % 2147481173) % 2147481151 + 2 * (k : Int) + 5 = st ∧ 0 ≤ b ∧ 0 ≤ st ∧ st ≤ 4294967296 := fun n => by
    refine ⟨_, _, rfl, rfl, ?_, ?_, ?_⟩
    · split <;> omega
    · have := hy ((n * 16807 + 60919 * (k : Int) + 31) % 2147481173 * ((n * 16807 + 60919 * (k : Int) + 31) % 2147481173)); omega
    · have := hy ((n * 16807 + 60919 * (k : Int) + 31) % 2147481173 * ((n * 16807 + 60919 * (k : Int) + 31) % 2147481173)); omega
  by_cases hlen : k < ns.length
  · obtain ⟨b, st, e1, e2, h1, h2, h3⟩ := done ns[k]
    refine ⟨b, st, ?_, h1, h2, h3⟩
    simp [show (k : Int) < ns.length by omega, atI_nat0, hlen, hm, hm2]
    by_cases hbig : 1000000000000000000 ≤ ns[k]
    · simp [hbig] at e1 ⊢; exact ⟨e1, e2⟩
    · simp [hbig] at e1 ⊢; exact ⟨e1, e2⟩
  · obtain ⟨b, st, e1, e2, h1, h2, h3⟩ := done 0
    refine ⟨b, st, ?_, h1, h2, h3⟩
    simp [show ¬ (k : Int) < ns.length by omega, hm, hm2]
    simp at e1 e2
    exact ⟨e1, e2⟩
theorem sort_marks {ms : List (Int × Int)} (hn : (ms.map (·.1)).Nodup) : ∃ ys : List (Int × Int), ys.Perm ms ∧ ys.Pairwise (fun a b => a.1 < b.1) ∧ (ms.map mkD).mergeSort leS = ys.map mkD := by
  have h1 := List.pairwise_mergeSort (le := fun a b : Int × Int => decide (a.1 ≤ b.1)) (fun a b c h h' => by simp at *; omega) (fun a b => by simp; omega) ms
  have h2 := List.mergeSort_perm ms (fun a b : Int × Int => decide (a.1 ≤ b.1))
  have h3 : ((ms.mergeSort fun a b => decide (a.1 ≤ b.1)).map (·.1)).Nodup := (h2.map (·.1)).nodup_iff.mpr hn
  have h4 : (ms.mergeSort fun a b => decide (a.1 ≤ b.1)).Pairwise (fun a b => a.1 < b.1) := by
    have h5 : (ms.mergeSort fun a b => decide (a.1 ≤ b.1)).Pairwise (fun a b => a.1 ≠ b.1) := by
      unfold List.Nodup at h3
      rw [List.pairwise_map] at h3
      exact h3
    refine (h1.and h5).imp fun {a b} h => ?_
    have := h.1
    have := h.2
    simp at *
    omega
  exact ⟨_, h2, h4, sort_rows (fun m => m.1) mkD _ _ (fun m _ => ⟨_, rfl, by simp [toPys, toPy]⟩) h2 h4⟩
theorem sortOk_mk (xs : List (Int × Int)) : sortOk (xs.map mkD) = true :=
  sortOk_rows mkD (fun t => .tuple [.int t.1, .int t.2]) xs (fun t _ => by simp [mkD, toPy, toPys]) (fun t _ => by simp [PyData.depth, PyData.depthAll]) (fun t _ => rfl) (fun t _ u _ => by simp [PySem.W.alike, PySem.W.alikeAll])
theorem f_drawn_wedge (a : Ad) {μ : Mu} {j : Nat} (least most : Int) (h : Src μ j) (h0 : 0 ≤ least) (h1 : least ≤ most) (h2 : most ≤ 5) :
    ∃ (w : Wd) (μ' : Mu), F__law_drawn_wedge a [.obj j, .val (.int least), .val (.int most)] μ = .ok (.val (wD w)) μ' ∧ w.Ok ∧ least ≤ w.marks.length ∧ Nxt μ j μ' := by
  unfold F__law_drawn_wedge B__law_drawn_wedge
  have hj := h.lt
  obtain ⟨r, μ1, e1, r0, r1, n1⟩ := f_pick a (most - least + 1) (h.app (.lst [])) (by omega) (by omega)
  obtain ⟨μ1, rfl, n1'⟩ := n1.app hj
  obtain ⟨k, hk⟩ : ∃ k : Nat, least + r = k := ⟨(least + r).toNat, by omega⟩
  simp [e1, hk, rgOk_i (show -16777216 ≤ (1 : Int) ∧ (1 : Int) ≤ 16777216 by omega), rgOk_i (show -16777216 ≤ (12 : Int) ∧ (12 : Int) ≤ 16777216 by omega), rgOk_i (show -16777216 ≤ (k : Int) ∧ (k : Int) ≤ 16777216 by omega)]
  refine for_ind (fun i s m => ∃ (μ2 : Mu) (ms : List (Int × Int)) (ps : List Int) (j5 j6 j7 j8 : Option R), m = μ2 ++ [.lst (ms.map mkD)] ∧ Nxt μ j μ2 ∧
      s = [some (.obj j), some (.val (.int least)), some (.val (.int most)), some (.val (.lst (ps.map .int))), some (.obj μ.length), j5, j6, j7, j8] ∧
      ms.length = i ∧ ps.length + i = 11 ∧ (∀ p ∈ ps, 1 ≤ p ∧ p ≤ 11 ∧ p ∉ ms.map (·.1)) ∧ ps.Nodup ∧ (∀ m ∈ ms, 1 ≤ m.1 ∧ m.1 ≤ 11 ∧ 0 ≤ m.2 ∧ m.2 ≤ 2) ∧ (ms.map (·.1)).Nodup)
    (fun r => ∃ (w : Wd) (μ' : Mu), fin μ.length (r.bind _) = .ok (.val (wD w)) μ' ∧ w.Ok ∧ least ≤ w.marks.length ∧ Nxt μ j μ') ?_ (fun i d s m hi hI => ?_) (fun s m hI => ?_)
  · refine ⟨μ1, [], [1, 2, 3, 4, 5, 6, 7, 8, 9, 10, 11], none, none, none, none, rfl, n1', ?_, rfl, rfl, ?_, by decide, by simp, by simp⟩
    · rfl
    · intro p hp
      simp at hp ⊢
      omega
  · obtain ⟨μ2, ms, ps, j5, j6, j7, j8, hm, n2, rfl, hl, hp, hps, hpn, hms, hmn⟩ := hI
    obtain ⟨hi, rfl⟩ := rng_get hi
    refine ⟨_, rfl, ?_⟩
    have hpne : ps ≠ [] := by intro z; subst z; simp at hp; omega
    have hj2 : j < μ2.length := by rw [n2.len]; exact hj
    obtain ⟨d, μ3, e3, hd, n3⟩ := f_chosen a (ps.map D.int) (by rw [hm]; exact n2.2.app _ : Src m j) (by simpa using hpne) (by simp; omega)
    obtain ⟨p, hpp, rfl⟩ := List.mem_map.mp hd
    subst hm
    obtain ⟨μ3, rfl, n3'⟩ := n3.app hj2
    have n23 := n2.trans n3'
    have hl3 : μ3.length = μ.length := n23.len
    have g3 : (μ3 ++ [MO.lst (ms.map mkD)])[μ.length]? = some (.lst (ms.map mkD)) := by rw [← hl3]; simp
    obtain ⟨c, μ4, e4, c0, c1, n4⟩ := f_pick a 3 (n23.2.app (.lst (ms.map mkD))) (by omega) (by omega)
    obtain ⟨μ4, rfl, n4'⟩ := n4.app (by rw [hl3]; exact hj)
    have n24 := n23.trans n4'
    have hl4 : μ4.length = μ.length := n24.len
    have g4 : (μ4 ++ [MO.lst (ms.map mkD)])[μ.length]? = some (.lst (ms.map mkD)) := by rw [← hl4]; simp
    have hac : (ms.map mkD).length < sizeLine := by
      rw [List.length_map]; exact Nat.lt_of_le_of_lt (show ms.length ≤ 11 by omega) (by rw [sizeLine_eq]; decide)
    have cmp := comp_pure (tg := tgName 8) (t := tOf (eBin neR (eVarN 8) (eVarN 7))) (f := eVarN 8) (s := [some (.obj j), some (.val (.int least)), some (.val (.int most)), some (.val (.lst (ps.map .int))), some (.obj μ.length), some (.val (.int i)), j6, some (.val (.int p)), none])
      (μ := μ3 ++ [.lst (ms.map mkD)]) (k := (μ3 ++ [MO.lst (ms.map mkD)]).length) (ds := ps.map .int) (fun d => match d with | .int q => decide (q ≠ p) | _ => false) id (fun d hd => by
        obtain ⟨q, hq, rfl⟩ := List.mem_map.mp hd
        simp) (by rw [List.length_map]; exact le_line (by omega))
    have ef : ((ps.map D.int).filter (fun d => match d with | .int q => decide (q ≠ p) | _ => false)).map id = (ps.filter fun q => decide (q ≠ p)).map .int := by
      rw [List.map_id, List.filter_map]; rfl
    rw [ef] at cmp
    simp at cmp
    simp [e3, cmp, isL_o g3, e4, app_o g4 hac]
    have hpm := hps p hpp
    refine ⟨μ4, ms ++ [(p, c)], ?_, n24, ps.filter fun q => decide (q ≠ p), ⟨by simp, ?_⟩⟩
    · rw [← hl4]; simp [mkD]
    · have hfl : (ps.filter fun q => decide (q ≠ p)).length + 1 = ps.length := by
        have h1 : ps.erase p = ps.filter fun q => decide (q ≠ p) := by
          rw [hpn.erase_eq_filter]; congr 1; funext q; simp [bne, Bool.beq_eq_decide_eq]
        have h2 := List.length_erase_of_mem hpp
        have h3 : 0 < ps.length := List.length_pos_iff.mpr hpne
        rw [← h1, h2]; omega
      refine ⟨by simp; omega, by omega, fun q hq => ?_, hpn.filter _, fun x y hxy => ?_, ?_⟩
      · have hq' := List.mem_filter.mp hq
        have h1 := hps q hq'.1
        have h2 : q ≠ p := by simpa using hq'.2
        refine ⟨h1.1, h1.2.1, fun x hx => ?_⟩
        rcases List.mem_append.mp hx with hx | hx
        · exact h1.2.2 (List.mem_map.mpr ⟨_, hx, rfl⟩)
        · simp at hx; exact h2 hx.1
      · rcases List.mem_append.mp hxy with hx | hx
        · exact hms _ hx
        · simp at hx
          obtain ⟨rfl, rfl⟩ := hx
          exact ⟨hpm.1, hpm.2.1, c0, by omega⟩
      · rw [List.map_append, List.nodup_append]
        refine ⟨hmn, by simp, fun x hx y hy => ?_⟩
        simp at hy
        subst hy
        intro z; subst z
        exact hpm.2.2 hx
  · obtain ⟨μ2, ms, ps, j5, j6, j7, j8, rfl, n2, rfl, hl, hp, hps, hpn, hms, hmn⟩ := hI
    rw [rng_len] at hl hp
    have hl2 : μ2.length = μ.length := n2.len
    have hj2 : j < μ2.length := by rw [hl2]; exact hj
    obtain ⟨d, μ3, e3, hd, n3⟩ := f_chosenL a [.int 1, .int 1, .int 2, .int 3, .int 4, .int 5, .int 6] (n2.2.app (.lst (ms.map mkD))) (by simp) (by simp)
    obtain ⟨μ3, rfl, n3'⟩ := n3.app hj2
    have n23 := n2.trans n3'
    obtain ⟨q, rfl, hq⟩ : ∃ q : Int, d = .int q ∧ 1 ≤ q ∧ q ≤ 6 := by
      simp at hd
      rcases hd with rfl | rfl | rfl | rfl | rfl | rfl <;> exact ⟨_, rfl, by omega⟩
    obtain ⟨e, μ4, e4, c0, c1, n4⟩ := f_pick a 11 (n23.2.app (.lst (ms.map mkD))) (by omega) (by omega)
    obtain ⟨μ4, rfl, n4'⟩ := n4.app (by rw [n23.len]; exact hj)
    have n24 := n23.trans n4'
    have g4 : (μ4 ++ [MO.lst (ms.map mkD)])[μ.length]? = some (.lst (ms.map mkD)) := by rw [← n24.len]; simp
    obtain ⟨ys, hy1, hy2, hy3⟩ := sort_marks hmn
    simp [e3, e4, one_o g4, sortOk_mk, hy3]
    refine ⟨⟨q, 1 + e, ys⟩, μ4, ?_, ⟨hq.1, hq.2, by show 1 ≤ 1 + e; omega, by show 1 + e ≤ 11; omega, ?_, fun m hm => hms m (hy1.mem_iff.mp hm), hy2⟩, ?_, n24⟩
    · rw [← n24.len, fin_rtv1]
      rfl
    · show ys.length ≤ 5
      rw [hy1.length_eq]; omega
    · show least ≤ (ys.length : Int)
      rw [hy1.length_eq]; omega
theorem restC_range {ms : List (Int × Int)} : (List.range (2 * ms.length)).map (fun i => (restC ms)[i]?.getD (0, 0)) = restC ms := by
  apply List.ext_getElem?
  intro i
  rw [List.getElem?_map]
  by_cases h : i < 2 * ms.length
  · have h' : i < (restC ms).length := by rw [restC_len]; exact h
    rw [List.getElem?_range h, List.getElem?_eq_getElem h']
    simp [List.getElem?_eq_getElem h']
  · rw [List.getElem?_eq_none (by simpa using h), List.getElem?_eq_none (by rw [restC_len]; omega)]; rfl
theorem restC_up {ms : List (Int × Int)} (hm : ∀ m ∈ ms, 1 ≤ m.1 ∧ m.1 ≤ 11) (h : ms.Pairwise fun a b => a.1 < b.1) : (restC ms).Pairwise fun a b => a.1 < b.1 := by
  have h1 := restsL_up hm h
  have h2 : ((restsL ms).map (·.1)).Pairwise (· < ·) := List.pairwise_map.mpr h1
  rw [rests_fst] at h2
  exact List.pairwise_map.mp h2
theorem pl_lt {w : Wd} (h : w.Ok) (hne : w.marks ≠ []) {i j : Nat} (hij : i < j) : pl w.marks i < pl w.marks j := by
  have hN : 0 < 2 * w.marks.length := by have := List.length_pos_iff.mpr hne; omega
  obtain ⟨p, hp⟩ := restC_at i hne
  obtain ⟨q, hq⟩ := restC_at j hne
  have mp := restC_mem h.ms (List.mem_of_getElem? hp)
  have mq := restC_mem h.ms (List.mem_of_getElem? hq)
  simp only [pl, hp, hq, Option.getD_some]
  by_cases e : i / (2 * w.marks.length) = j / (2 * w.marks.length)
  · rw [e]
    have hlt : i % (2 * w.marks.length) < j % (2 * w.marks.length) := by
      have h1 := Nat.div_add_mod i (2 * w.marks.length)
      have h2 := Nat.div_add_mod j (2 * w.marks.length)
      rw [e] at h1
      omega
    have up := restC_up (fun m hm => ⟨(h.ms m hm).1, (h.ms m hm).2.1⟩) h.up
    have hlj := (List.getElem?_eq_some_iff.mp hq).1
    have hli := (List.getElem?_eq_some_iff.mp hp).1
    have := List.pairwise_iff_getElem.mp up _ _ hli hlj hlt
    rw [(List.getElem?_eq_some_iff.mp hp).2, (List.getElem?_eq_some_iff.mp hq).2] at this
    omega
  · have : i / (2 * w.marks.length) < j / (2 * w.marks.length) := by
      have := Nat.div_le_div_right (c := 2 * w.marks.length) (Nat.le_of_lt hij)
      omega
    omega
/-! ### how many places of the endless row lie up to x -/
def capS (ms : List (Int × Int)) (x : Int) : Int := ((restC ms).map fun p => (x - p.1) / 24 + 1).sum
theorem sum_ge {α : Type} (f : α → Int) (q : Int) : ∀ l : List α, (∀ x ∈ l, q ≤ f x) → (l.length : Int) * q ≤ (l.map f).sum
  | [], _ => by simp
  | x :: l, h => by
    have h1 := sum_ge f q l fun y hy => h y (List.mem_cons_of_mem _ hy)
    have h2 := h x List.mem_cons_self
    rw [List.map_cons, List.sum_cons, List.length_cons]
    have : ((l.length + 1 : Nat) : Int) * q = (l.length : Int) * q + q := by rw [Int.natCast_add]; simp [Int.add_mul]
    omega
theorem sum_le {α : Type} (f : α → Int) (q : Int) : ∀ l : List α, (∀ x ∈ l, f x ≤ q) → (l.map f).sum ≤ (l.length : Int) * q
  | [], _ => by simp
  | x :: l, h => by
    have h1 := sum_le f q l fun y hy => h y (List.mem_cons_of_mem _ hy)
    have h2 := h x List.mem_cons_self
    rw [List.map_cons, List.sum_cons, List.length_cons]
    have : ((l.length + 1 : Nat) : Int) * q = (l.length : Int) * q + q := by rw [Int.natCast_add]; simp [Int.add_mul]
    omega
theorem sum_cut {α : Type} (f : α → Int) (l : List α) (k : Nat) : (l.map f).sum = ((l.take k).map f).sum + ((l.drop k).map f).sum := by
  rw [← List.sum_append, ← List.map_append, List.take_append_drop]
theorem restC_mono {ms : List (Int × Int)} (hm : ∀ m ∈ ms, 1 ≤ m.1 ∧ m.1 ≤ 11) (h : ms.Pairwise fun a b => a.1 < b.1) {i j : Nat} {p q : Int × Int} (hp : (restC ms)[i]? = some p) (hq : (restC ms)[j]? = some q) (hij : i ≤ j) : p.1 ≤ q.1 := by
  rcases Nat.lt_or_ge i j with hlt | hge
  · obtain ⟨a1, a2⟩ := List.getElem?_eq_some_iff.mp hp
    obtain ⟨b1, b2⟩ := List.getElem?_eq_some_iff.mp hq
    have := List.pairwise_iff_getElem.mp (restC_up hm h) i j a1 b1 hlt
    rw [a2, b2] at this
    omega
  · have : i = j := by omega
    subst this
    rw [hp] at hq; cases hq
    omega
theorem Wd.Ok.m11 {w : Wd} (h : w.Ok) : ∀ m ∈ w.marks, 1 ≤ m.1 ∧ m.1 ≤ 11 := fun m hm => ⟨(h.ms m hm).1, (h.ms m hm).2.1⟩
theorem mul_split (a b q : Int) : (a + b) * q = a * q + b * q := Int.add_mul a b q
theorem capS_ge {w : Wd} (h : w.Ok) (hne : w.marks ≠ []) {x : Int} {i : Nat} (hx : pl w.marks i ≤ x) : (i : Int) + 1 ≤ capS w.marks x := by
  obtain ⟨p, hp⟩ := restC_at i hne
  have hlen := restC_len w.marks
  have hpos : 0 < 2 * w.marks.length := by have := List.length_pos_iff.mpr hne; omega
  have mp := restC_mem h.ms (List.mem_of_getElem? hp)
  simp only [pl, hp, Option.getD_some] at hx
  generalize hj : i % (2 * w.marks.length) = j at hp
  generalize hq : i / (2 * w.marks.length) = q at hx
  have hjl : j < 2 * w.marks.length := by rw [← hj]; exact Nat.mod_lt _ hpos
  have hi : i = 2 * w.marks.length * q + j := by rw [← hj, ← hq]; exact (Nat.div_add_mod i _).symm
  have e := sum_cut (fun p : Int × Int => (x - p.1) / 24 + 1) (restC w.marks) (j + 1)
  have h1 := sum_ge (fun p : Int × Int => (x - p.1) / 24 + 1) ((q : Int) + 1) ((restC w.marks).take (j + 1)) (fun y hy => by
    obtain ⟨k, hk⟩ := List.mem_iff_getElem?.mp hy
    rw [List.getElem?_take] at hk
    split at hk
    · have := restC_mono h.m11 h.up hk hp (by omega)
      show (q : Int) + 1 ≤ (x - y.1) / 24 + 1
      omega
    · cases hk)
  have h2 := sum_ge (fun p : Int × Int => (x - p.1) / 24 + 1) (q : Int) ((restC w.marks).drop (j + 1)) (fun y hy => by
    have := restC_mem h.ms (List.mem_of_mem_drop hy)
    show (q : Int) ≤ (x - y.1) / 24 + 1
    omega)
  rw [List.length_take, hlen] at h1
  rw [List.length_drop, hlen] at h2
  have e1 : min (j + 1) (2 * w.marks.length) = j + 1 := by omega
  rw [e1] at h1
  have m1 : ((j + 1 : Nat) : Int) * ((q : Int) + 1) = ((j + 1 : Nat) : Int) * q + ((j + 1 : Nat) : Int) := by rw [Int.mul_add]; simp
  have m2 : ((j + 1 : Nat) : Int) * q + ((2 * w.marks.length - (j + 1) : Nat) : Int) * q = ((2 * w.marks.length * q : Nat) : Int) := by
    rw [← Int.add_mul, ← Int.natCast_add, show j + 1 + (2 * w.marks.length - (j + 1)) = 2 * w.marks.length by omega, ← Int.natCast_mul]
  unfold capS
  rw [e]
  omega
theorem capS_le {w : Wd} (h : w.Ok) (hne : w.marks ≠ []) {x : Int} {i : Nat} (hx : x < pl w.marks i) : capS w.marks x ≤ (i : Int) := by
  obtain ⟨p, hp⟩ := restC_at i hne
  have hlen := restC_len w.marks
  have hpos : 0 < 2 * w.marks.length := by have := List.length_pos_iff.mpr hne; omega
  have mp := restC_mem h.ms (List.mem_of_getElem? hp)
  simp only [pl, hp, Option.getD_some] at hx
  generalize hj : i % (2 * w.marks.length) = j at hp
  generalize hq : i / (2 * w.marks.length) = q at hx
  have hjl : j < 2 * w.marks.length := by rw [← hj]; exact Nat.mod_lt _ hpos
  have hi : i = 2 * w.marks.length * q + j := by rw [← hj, ← hq]; exact (Nat.div_add_mod i _).symm
  have e := sum_cut (fun p : Int × Int => (x - p.1) / 24 + 1) (restC w.marks) j
  have h1 := sum_le (fun p : Int × Int => (x - p.1) / 24 + 1) ((q : Int) + 1) ((restC w.marks).take j) (fun y hy => by
    have := restC_mem h.ms (List.mem_of_mem_take hy)
    show (x - y.1) / 24 + 1 ≤ (q : Int) + 1
    omega)
  have h2 := sum_le (fun p : Int × Int => (x - p.1) / 24 + 1) (q : Int) ((restC w.marks).drop j) (fun y hy => by
    obtain ⟨k, hk⟩ := List.mem_iff_getElem?.mp hy
    rw [List.getElem?_drop] at hk
    have := restC_mono h.m11 h.up hp hk (by omega)
    show (x - y.1) / 24 + 1 ≤ (q : Int)
    omega)
  rw [List.length_take, hlen] at h1
  rw [List.length_drop, hlen] at h2
  have e1 : min j (2 * w.marks.length) = j := by omega
  rw [e1] at h1
  have m1 : (j : Int) * ((q : Int) + 1) = (j : Int) * q + (j : Int) := by rw [Int.mul_add]; simp
  have m2 : (j : Int) * q + ((2 * w.marks.length - j : Nat) : Int) * q = ((2 * w.marks.length * q : Nat) : Int) := by
    rw [← Int.add_mul, ← Int.natCast_add, show j + (2 * w.marks.length - j) = 2 * w.marks.length by omega, ← Int.natCast_mul]
  unfold capS
  rw [e]
  omega
theorem pl_le_iff {w : Wd} (h : w.Ok) (hne : w.marks ≠ []) (x : Int) (i : Nat) : pl w.marks i ≤ x ↔ (i : Int) < capS w.marks x := by
  constructor
  · intro hx; have := capS_ge h hne hx; omega
  · intro hx
    rcases Int.lt_or_le x (pl w.marks i) with hlt | hle
    · have := capS_le h hne hlt; omega
    · exact hle
theorem capS_nn {w : Wd} (h : w.Ok) {x : Int} (hx : -1 ≤ x) : 0 ≤ capS w.marks x := by
  have := sum_ge (fun p : Int × Int => (x - p.1) / 24 + 1) 0 (restC w.marks) (fun y hy => by
    have := restC_mem h.ms hy
    show (0 : Int) ≤ (x - y.1) / 24 + 1
    omega)
  rw [Int.mul_zero] at this
  exact this
theorem capS_mono (ms : List (Int × Int)) {x y : Int} (hxy : x ≤ y) : capS ms x ≤ capS ms y := by
  unfold capS
  induction restC ms with
  | nil => simp
  | cons p l ih =>
    rw [List.map_cons, List.map_cons, List.sum_cons, List.sum_cons]
    have : (x - p.1) / 24 ≤ (y - p.1) / 24 := by omega
    omega
/-! ### where the marks are, copy by copy -/
/-- the angle of a place in a copy -/
def ang (p c : Int) : Int := 12 * c + (if c % 2 = 0 then p else 12 - p)
theorem ang_even (p q : Int) : ang p (2 * q) = 24 * q + p := by unfold ang; rw [if_pos (by omega)]; omega
theorem ang_odd (p q : Int) : ang p (2 * q + 1) = 24 * q + 24 - p := by unfold ang; rw [if_neg (by omega)]; omega
theorem ang_in {p c : Int} (h1 : 1 ≤ p) (h2 : p ≤ 11) : 12 * c < ang p c ∧ ang p c < 12 * c + 12 := by unfold ang; split <;> omega
theorem ang_shift (p c B : Int) : ang p (c + 2 * B) = ang p c + 24 * B := by
  unfold ang
  rw [show (c + 2 * B) % 2 = c % 2 by omega]
  omega
/-- the place of a mark -/
def plc (ms : List (Int × Int)) (i : Nat) : Int := (ms[i]?.getD (0, 0)).1
theorem upL_get : ∀ (ms : List (Int × Int)) (i k : Nat), (upL i ms)[k]? = ms[k]?.map fun m => (m.1, i + k, 0)
  | [], i, k => by simp [upL]
  | m :: r, i, 0 => by simp [upL]
  | m :: r, i, k + 1 => by
    have := upL_get r (i + 1) k
    simp only [upL, List.getElem?_cons_succ]
    rw [this]
    congr 1
    funext m
    simp; omega
theorem dnL_get : ∀ (ms : List (Int × Int)) (i k : Nat), (dnL i ms)[k]? = ms[k]?.map fun m => (24 - m.1, i + k, 1)
  | [], i, k => by simp [dnL]
  | m :: r, i, 0 => by simp [dnL]
  | m :: r, i, k + 1 => by
    have := dnL_get r (i + 1) k
    simp only [dnL, List.getElem?_cons_succ]
    rw [this]
    congr 1
    funext m
    simp; omega
theorem restsL_len (ms : List (Int × Int)) : (restsL ms).length = 2 * ms.length := by
  rw [restsL, List.length_append, List.length_reverse, upL_len, dnL_len]; omega
theorem restsL_at (ms : List (Int × Int)) {j : Nat} (h : j < 2 * ms.length) : ∃ (ix : Nat) (tn : Int), ix < ms.length ∧ (restsL ms)[j]? = some (if tn = 0 then plc ms ix else 24 - plc ms ix, ix, tn) ∧ ((tn = 0 ∧ j = ix) ∨ (tn = 1 ∧ j = 2 * ms.length - 1 - ix)) := by
  unfold restsL
  by_cases hj : j < ms.length
  · refine ⟨j, 0, hj, ?_, .inl ⟨rfl, rfl⟩⟩
    rw [List.getElem?_append_left (by rw [upL_len]; exact hj), upL_get]
    simp [plc, List.getElem?_eq_getElem hj]
  · refine ⟨2 * ms.length - 1 - j, 1, by omega, ?_, .inr ⟨rfl, by omega⟩⟩
    rw [List.getElem?_append_right (by rw [upL_len]; omega), upL_len, List.getElem?_reverse (by rw [dnL_len]; omega), dnL_len, dnL_get]
    have e : ms.length - 1 - (j - ms.length) = 2 * ms.length - 1 - j := by omega
    rw [e]
    have hl : 2 * ms.length - 1 - j < ms.length := by omega
    simp [plc, List.getElem?_eq_getElem hl]
/-- the i-th of the endless row: (angle, mark, copy) -/
def plT (ms : List (Int × Int)) (i : Nat) : Int × Nat × Int :=
  let t := (restsL ms)[i % (2 * ms.length)]?.getD (0, 0, 0)
  (t.1 + 24 * ((i / (2 * ms.length) : Nat) : Int), t.2.1, 2 * ((i / (2 * ms.length) : Nat) : Int) + t.2.2)
theorem plT_fst (ms : List (Int × Int)) (i : Nat) : (plT ms i).1 = pl ms i := by
  unfold plT pl
  have e := congrArg (fun l => l[i % (2 * ms.length)]?) (rests_fst ms)
  simp only [List.getElem?_map] at e
  dsimp only
  congr 1
  cases h1 : (restsL ms)[i % (2 * ms.length)]? <;> cases h2 : (restC ms)[i % (2 * ms.length)]? <;> rw [h1, h2] at e <;> simp at e ⊢
  exact e
theorem plT_ok (ms : List (Int × Int)) (hne : ms ≠ []) (i : Nat) : ∃ ix c, ix < ms.length ∧ 0 ≤ c ∧ plT ms i = (ang (plc ms ix) c, ix, c) := by
  have hpos : 0 < 2 * ms.length := by have := List.length_pos_iff.mpr hne; omega
  obtain ⟨ix, tn, h1, h2, h3⟩ := restsL_at ms (Nat.mod_lt i hpos)
  refine ⟨ix, 2 * ((i / (2 * ms.length) : Nat) : Int) + tn, h1, ?_, ?_⟩
  · have hq : (0 : Int) ≤ ((i / (2 * ms.length) : Nat) : Int) := Int.natCast_nonneg _
    rcases h3 with ⟨rfl, _⟩ | ⟨rfl, _⟩ <;> omega
  · unfold plT
    rw [h2]
    dsimp only [Option.getD_some]
    rcases h3 with ⟨rfl, _⟩ | ⟨rfl, _⟩
    · rw [Int.add_zero, ang_even]; simp; omega
    · rw [ang_odd]; simp; omega
/-- every mark in a copy from 0 on stands in it -/
theorem plT_has (ms : List (Int × Int)) {ix : Nat} (h : ix < ms.length) {c : Int} (hc : 0 ≤ c) : ∃ i : Nat, plT ms i = (ang (plc ms ix) c, ix, c) := by
  have hpos : 0 < 2 * ms.length := by omega
  have key : ∀ (j q : Nat) (tn : Int), j < 2 * ms.length → (restsL ms)[j]? = some (if tn = 0 then plc ms ix else 24 - plc ms ix, ix, tn) → (tn = 0 ∨ tn = 1) → c = 2 * (q : Int) + tn → plT ms (2 * ms.length * q + j) = (ang (plc ms ix) c, ix, c) := by
    intro j q tn hj hr ht hc
    have e1 : (2 * ms.length * q + j) % (2 * ms.length) = j := by rw [Nat.mul_add_mod]; exact Nat.mod_eq_of_lt hj
    have e2 : (2 * ms.length * q + j) / (2 * ms.length) = q := by rw [Nat.mul_add_div hpos, Nat.div_eq_of_lt hj, Nat.add_zero]
    unfold plT
    rw [e1, e2, hr, hc]
    dsimp only [Option.getD_some]
    rcases ht with rfl | rfl
    · rw [Int.add_zero, ang_even]; simp; omega
    · rw [ang_odd]; simp; omega
  by_cases hp : c % 2 = 0
  · obtain ⟨ix', tn, _, h2, h3⟩ := restsL_at ms (show ix < 2 * ms.length by omega)
    rcases h3 with ⟨rfl, rfl⟩ | ⟨_, h4⟩
    · exact ⟨_, key ix (c / 2).toNat 0 (by omega) h2 (.inl rfl) (by omega)⟩
    · omega
  · obtain ⟨ix', tn, _, h2, h3⟩ := restsL_at ms (show 2 * ms.length - 1 - ix < 2 * ms.length by omega)
    rcases h3 with ⟨_, h4⟩ | ⟨rfl, h4⟩
    · omega
    · have : ix' = ix := by omega
      subst this
      exact ⟨_, key _ (c / 2).toNat 1 (by omega) h2 (.inr rfl) (by omega)⟩
/-! ### the law unfolds copy after copy -/
def unfK (p : Int) : Nat → List (Key × D)
  | 0 => [(.inl 0, .int p)]
  | i + 1 => unfK p i ++ [(.inl ((i : Int) + 1), .int (ang p ((i : Int) + 1))), (.inl (-(i : Int) - 1), .int (ang p (-(i : Int) - 1)))]
theorem look_app (l1 l2 : List (Key × D)) (k : Key) : lookK (l1 ++ l2) k = (lookK l1 k).or (lookK l2 k) := by
  unfold lookK
  rw [List.find?_append]
  cases List.find? (fun kv => decide (kv.fst = k)) l1 <;> rfl
theorem look_cons (k k' : Key) (v : D) (l : List (Key × D)) : lookK ((k', v) :: l) k = if k' = k then some v else lookK l k := by
  unfold lookK
  rw [List.find?_cons]
  by_cases h : k' = k <;> simp [h]
theorem look_nil (k : Key) : lookK [] k = none := rfl
theorem any_look (kvs : List (Key × D)) (k : Key) : (kvs.any fun kv => decide (kv.1 = k)) = (lookK kvs k).isSome := by
  induction kvs with
  | nil => rfl
  | cons p l ih =>
    obtain ⟨k', v⟩ := p
    rw [List.any_cons, ih, look_cons]
    by_cases h : k' = k <;> simp [h]
theorem put_new {kvs : List (Key × D)} {k : Key} (v : D) (h : lookK kvs k = none) : putKD kvs k v = kvs ++ [(k, v)] := by
  unfold putKD
  rw [any_look, h]
  rfl
theorem unf_look (p : Int) : ∀ (i : Nat) (c : Int), lookK (unfK p i) (.inl c) = if -(i : Int) ≤ c ∧ c ≤ i then some (.int (ang p c)) else none
  | 0, c => by
    rw [unfK, look_cons, look_nil]
    by_cases h : c = 0
    · subst h; simp [ang]
    · rw [if_neg (by intro z; exact h (Sum.inl.inj z).symm), if_neg (by omega)]
  | i + 1, c => by
    rw [unfK, look_app, unf_look p i, look_cons, look_cons, look_nil]
    by_cases h1 : -(i : Int) ≤ c ∧ c ≤ i
    · rw [if_pos h1, if_pos (show -((i + 1 : Nat) : Int) ≤ c ∧ c ≤ ((i + 1 : Nat) : Int) by omega)]; rfl
    · rw [if_neg h1]
      by_cases h2 : c = (i : Int) + 1
      · subst h2; simp; omega
      · by_cases h3 : c = -(i : Int) - 1
        · subst h3
          rw [if_neg (by intro z; have := Sum.inl.inj z; omega), if_pos rfl, if_pos (show -((i + 1 : Nat) : Int) ≤ -(i : Int) - 1 ∧ -(i : Int) - 1 ≤ ((i + 1 : Nat) : Int) by omega)]; rfl
        · rw [if_neg (by intro z; exact h2 (Sum.inl.inj z).symm), if_neg (by intro z; exact h3 (Sum.inl.inj z).symm), if_neg (show ¬ (-((i + 1 : Nat) : Int) ≤ c ∧ c ≤ ((i + 1 : Nat) : Int)) by omega)]; rfl
theorem unfK_len (p : Int) : ∀ i, (unfK p i).length = 2 * i + 1
  | 0 => rfl
  | i + 1 => by rw [unfK, List.length_append, unfK_len p i]; simp; omega
theorem dg_o {μ : Mu} {j : Nat} {kvs : List (Key × D)} {c : Int} (h : μ[j]? = some (.dct kvs)) : two dgD (.obj j) (.val (.int c)) μ = dgD (.dct kvs) (.int c) μ := by
  simp [two, deref, h]
theorem dg_s {kvs : List (Key × D)} {c : Int} {v : D} (μ : Mu) (h : lookK kvs (.inl c) = some v) : dgD (.dct kvs) (.int c) μ = .ok (.val v) μ := by
  unfold dgD
  dsimp only
  rw [h]
theorem f_unfolded (a : Ad) (p : Int) (far : Nat) (μ : Mu) (hf : far ≤ 100000) : F__law_unfolded a [.val (.int p), .val (.int far)] μ = .ok (.newD (unfK p far)) μ := by
  unfold F__law_unfolded B__law_unfolded
  have e0 : mergeD [] [((.inl 0 : Key), D.int p)] = unfK p 0 := rfl
  simp [e0, rgOk_i (show -16777216 ≤ (far : Int) ∧ (far : Int) ≤ 16777216 by omega)]
  refine for_fin (fun i s m => (∃ j3, s = [some (.val (.int p)), some (.val (.int far)), some (.obj μ.length), j3]) ∧ m = μ ++ [.dct (unfK p i)]) ⟨⟨none, rfl⟩, rfl⟩ (fun i d s m hi hI => ?_) (fun s m hI => ?_)
  · obtain ⟨⟨j3, rfl⟩, hm⟩ := hI
    obtain ⟨hlt, rfl⟩ := rng_get hi
    refine ⟨_, rfl, ?_⟩
    have hln := unfK_len p i
    have hs1 : (unfK p i).length < sizeLine := by rw [hln, sizeLine_eq]; omega
    have g : m[μ.length]? = some (.dct (unfK p i)) := by rw [hm]; simp
    have l1 := dg_s m (show lookK (unfK p i) (.inl (i : Int)) = some (.int (ang p i)) by rw [unf_look, if_pos (by omega)])
    have a1 : 24 * ((i : Int) + 1) - ang p i = ang p ((i : Int) + 1) := by unfold ang; split <;> split <;> omega
    have a2 : -24 * (i : Int) - ang p (-(i : Int)) = ang p (-(i : Int) - 1) := by unfold ang; split <;> split <;> omega
    have pn := put_new (.int (ang p ((i : Int) + 1))) (show lookK (unfK p i) (.inl ((i : Int) + 1)) = none by rw [unf_look, if_neg (by omega)])
    obtain ⟨k2, hk2⟩ : ∃ k2 : List (Key × D), k2 = unfK p i ++ [((.inl ((i : Int) + 1) : Key), D.int (ang p ((i : Int) + 1)))] := ⟨_, rfl⟩
    rw [← hk2] at pn
    simp [dg_o g, l1, g, hs1, a1, pn]
    have hk : μ.length < m.length := by rw [hm]; simp
    generalize hm2 : m.set μ.length (.dct k2) = m2
    have g2 : m2[μ.length]? = some (.dct k2) := by rw [← hm2, List.getElem?_set_self hk]
    have l2 := dg_s m2 (show lookK k2 (.inl (-(i : Int))) = some (.int (ang p (-(i : Int)))) by rw [hk2, look_app, unf_look, if_pos (by omega)]; rfl)
    have pn2 := put_new (.int (ang p (-(i : Int) - 1))) (show lookK k2 (.inl (-(i : Int) - 1)) = none by
      rw [hk2, look_app, unf_look, if_neg (by omega), look_cons, look_nil, if_neg (by intro z; have := Sum.inl.inj z; omega)]; rfl)
    have hs2 : k2.length < sizeLine := by rw [hk2, List.length_append, hln, sizeLine_eq]; simp; omega
    simp [dg_o g2, l2, g2, hs2, a2, pn2]
    rw [← hm2, hm, hk2]
    simp [unfK]
  · obtain ⟨⟨j3, rfl⟩, rfl⟩ := hI
    simp [rng_len]
theorem sort_any {α : Type} (key : α → Int) (enc : α → D) (xs : List α) (he : ∀ a ∈ xs, ∃ r, enc a = .tup (.int (key a) :: r) ∧ (toPys r).isSome = true) (hn : xs.Pairwise fun a b => key a ≠ key b) :
    ∃ ys : List α, ys.Perm xs ∧ ys.Pairwise (fun a b => key a < key b) ∧ (xs.map enc).mergeSort leS = ys.map enc := by
  have h1 := List.pairwise_mergeSort (le := fun a b : α => decide (key a ≤ key b)) (fun a b c h h' => by simp at *; omega) (fun a b => by simp; omega) xs
  have h2 := List.mergeSort_perm xs (fun a b : α => decide (key a ≤ key b))
  have h3 : (xs.mergeSort (fun a b : α => decide (key a ≤ key b))).Pairwise fun a b => key a ≠ key b := h2.symm.pairwise hn (fun h e => h e.symm)
  have h4 : (xs.mergeSort (fun a b : α => decide (key a ≤ key b))).Pairwise fun a b => key a < key b := by
    refine List.Pairwise.imp₂ (fun a b h h' => ?_) h1 h3
    simp at h
    omega
  exact ⟨_, h2, h4, sort_rows key enc xs _ he h2 h4⟩
def keysK : Nat → List Int
  | 0 => [0]
  | i + 1 => keysK i ++ [(i : Int) + 1, -(i : Int) - 1]
theorem keysK_mem : ∀ (i : Nat) (c : Int), c ∈ keysK i ↔ -(i : Int) ≤ c ∧ c ≤ i
  | 0, c => by simp [keysK]; omega
  | i + 1, c => by
    rw [keysK, List.mem_append, keysK_mem i c]
    simp
    omega
theorem keysK_nd : ∀ i, (keysK i).Pairwise (· ≠ ·)
  | 0 => by simp [keysK]
  | i + 1 => by
    rw [keysK, List.pairwise_append]
    refine ⟨keysK_nd i, by simp; omega, fun a ha b hb => ?_⟩
    have := (keysK_mem i a).mp ha
    simp at hb
    omega
theorem keysK_len : ∀ i, (keysK i).length = 2 * i + 1
  | 0 => rfl
  | i + 1 => by rw [keysK, List.length_append, keysK_len i]; simp; omega
theorem unf_keys (p : Int) : ∀ i, (unfK p i).map (fun kv => keyD kv.1) = (keysK i).map D.int
  | 0 => rfl
  | i + 1 => by rw [unfK, keysK, List.map_append, List.map_append, unf_keys p i]; rfl
def absI (x : Int) : Int := if x < 0 then -x else x
def q4D (w : Wd) (t : Int × Nat × Int) : D := .tup [.int t.1, .int t.2.1, .int t.2.2, .int (w.part * absI (t.1 - w.eye))]
def oneL (ms : List (Int × Int)) (far ix : Nat) : List (Int × Nat × Int) := (keysK far).map fun c => (ang (plc ms ix) c, ix, c)
def unsL (ms : List (Int × Int)) (far k : Nat) : List (Int × Nat × Int) := (List.range k).flatMap fun ix => oneL ms far ix
theorem unsL_mem {ms : List (Int × Int)} {far : Nat} (t : Int × Nat × Int) : t ∈ unsL ms far ms.length ↔ ∃ ix c, ix < ms.length ∧ t = (ang (plc ms ix) c, ix, c) ∧ -(far : Int) ≤ c ∧ c ≤ far := by
  unfold unsL oneL
  rw [List.mem_flatMap]
  constructor
  · rintro ⟨ix, hi, ht⟩
    obtain ⟨c, hc, rfl⟩ := List.mem_map.mp ht
    exact ⟨ix, c, List.mem_range.mp hi, rfl, (keysK_mem far c).mp hc⟩
  · rintro ⟨ix, c, hi, rfl, hc⟩
    exact ⟨ix, List.mem_range.mpr hi, List.mem_map.mpr ⟨c, (keysK_mem far c).mpr hc, rfl⟩⟩
theorem plc_in {w : Wd} (h : w.Ok) {ix : Nat} (hi : ix < w.marks.length) : 1 ≤ plc w.marks ix ∧ plc w.marks ix ≤ 11 := by
  have hm : w.marks[ix]? = some w.marks[ix] := List.getElem?_eq_getElem hi
  have := h.m11 _ (List.mem_of_getElem? hm)
  simp [plc, hm]; omega
theorem plc_lt {w : Wd} (h : w.Ok) {i j : Nat} (hij : i < j) (hj : j < w.marks.length) : plc w.marks i < plc w.marks j := by
  have := List.pairwise_iff_getElem.mp h.up i j (by omega) hj hij
  simp [plc, List.getElem?_eq_getElem hj, List.getElem?_eq_getElem (show i < w.marks.length by omega)]
  exact this
theorem ang_ne {p c p' c' : Int} (h1 : 1 ≤ p) (h2 : p ≤ 11) (h3 : 1 ≤ p') (h4 : p' ≤ 11) (h : c ≠ c' ∨ p ≠ p') : ang p c ≠ ang p' c' := by
  have a1 := ang_in (c := c) h1 h2
  have a2 := ang_in (c := c') h3 h4
  intro e
  have : c = c' := by omega
  subst this
  rcases h with h | h
  · exact h rfl
  · unfold ang at e
    split at e <;> omega
theorem unsL_nd {w : Wd} (h : w.Ok) (far : Nat) : (unsL w.marks far w.marks.length).Pairwise fun a b => a.1 ≠ b.1 := by
  unfold unsL
  rw [List.pairwise_flatMap]
  refine ⟨fun ix hi => ?_, ?_⟩
  · have hp := plc_in h (List.mem_range.mp hi)
    unfold oneL
    rw [List.pairwise_map]
    exact (keysK_nd far).imp fun {c c'} hc => ang_ne hp.1 hp.2 hp.1 hp.2 (.inl hc)
  · refine List.Pairwise.imp_of_mem (fun {i j} hi hj hij t ht u hu => ?_) List.pairwise_lt_range
    have pi := plc_in h (List.mem_range.mp hi)
    have pj := plc_in h (List.mem_range.mp hj)
    have := plc_lt h hij (List.mem_range.mp hj)
    obtain ⟨c, _, rfl⟩ := List.mem_map.mp ht
    obtain ⟨c', _, rfl⟩ := List.mem_map.mp hu
    exact ang_ne pi.1 pi.2 pj.1 pj.2 (.inr (by omega))
theorem sortOk_q4 (w : Wd) (xs : List (Int × Nat × Int)) : sortOk (xs.map (q4D w)) = true :=
  sortOk_rows (q4D w) (fun t => .tuple [.int t.1, .int t.2.1, .int t.2.2, .int (w.part * absI (t.1 - w.eye))]) xs (fun t _ => by simp [q4D, toPy, toPys]) (fun t _ => by simp [PyData.depth, PyData.depthAll]) (fun t _ => rfl) (fun t _ u _ => by simp [PySem.W.alike, PySem.W.alikeAll])
theorem absD_a (x : Int) (μ : Mu) : absD (.int x) μ = .ok (.val (.int (absI x))) μ := rfl
theorem unsL_succ (ms : List (Int × Int)) (far k : Nat) : unsL ms far (k + 1) = unsL ms far k ++ oneL ms far k := by
  unfold unsL; rw [List.range_succ]; simp
theorem unsL_len (ms : List (Int × Int)) (far : Nat) : ∀ k, (unsL ms far k).length = k * (2 * far + 1)
  | 0 => by simp [unsL]
  | k + 1 => by rw [unsL_succ, List.length_append, unsL_len ms far k]; simp [oneL, keysK_len]; rw [Nat.add_mul]; omega
/-! ### angles, copies, indices -/
theorem f_angle_of (a : Ad) (p c : Int) (μ : Mu) : F_angle_of a [.val (.int p), .val (.int c)] μ = .ok (.val (.int (ang p c))) μ := by
  unfold F_angle_of B_angle_of ang
  by_cases h : c % 2 = 0
  · simp [h]
  · simp [h]
theorem ang_copy {p c : Int} (h1 : 1 ≤ p) (h2 : p ≤ 11) : ang p c / 12 = c := by
  have := ang_in (c := c) h1 h2
  omega
theorem f_need_index (a : Ad) (w : Wd) (d : D) (μ : Mu) (h : Pl d) (hl : w.marks.length ≤ 5) : F_need_index a [.val (wD w), .val d] μ = if within d 0 (w.marks.length - 1) = true then .ok (.val .non) μ else .exc a.InvalidIndex μ := by
  unfold F_need_index B_need_index
  simp [f_within, h.ty]
  cases within d 0 (w.marks.length - 1) <;> simp
theorem f_need_copy (a : Ad) (d : D) (most : Int) (μ : Mu) (h : Pl d) : F_need_copy a [.val d, .val (.int most)] μ = if within d (-most) most = true then .ok (.val .non) μ else .exc a.InvalidCopy μ := by
  unfold F_need_copy B_need_copy
  simp [f_within, h.ty]
  cases within d (-most) most <;> simp
theorem mark_at {w : Wd} {i : Nat} (hi : i < w.marks.length) : ∃ c, w.marks[i]? = some (plc w.marks i, c) := by
  refine ⟨(w.marks[i]).2, ?_⟩
  simp [plc, List.getElem?_eq_getElem hi]
theorem f_wedge_w (a : Ad) {w : Wd} (h : w.Ok) (μ : Mu) : F_need_wedge a [.val (wD w)] μ = .ok (.val .non) μ := by
  rw [f_need_wedge a _ _ (pl_w w), right_w h, if_pos rfl]
/-! ### values of any kind, of bounded depth and width -/
inductive Vl (m : Nat) : Nat → D → Prop
  | non {n : Nat} : Vl m n .non
  | bl {n : Nat} (b : Bool) : Vl m n (.bl b)
  | int {n : Nat} (i : Int) : Vl m n (.int i)
  | str {n : Nat} (x : Str) (h : PyData.canLay0 (.str x) = true) : Vl m n (.str x)
  | tup {n : Nat} {xs : List D} (l : xs.length ≤ m) (h : ∀ d ∈ xs, Vl m n d) : Vl m (n + 1) (.tup xs)
  | lst {n : Nat} {xs : List D} (l : xs.length ≤ m) (h : ∀ d ∈ xs, Vl m n d) : Vl m (n + 1) (.lst xs)
theorem Vl.pl {m n : Nat} {d : D} (h : Vl m n d) : Pl d := by
  induction h with
  | non => exact .non
  | bl b => exact .bl b
  | int b => exact .int b
  | str x _ => exact .str x
  | tup _ _ ih => exact .tup ih
  | lst _ _ ih => exact .lst ih
theorem Vl.fl {m n : Nat} {d : D} (h : Vl m n d) : Fl n d := by
  induction h with
  | non => exact .non
  | bl b => exact .bl b
  | int b => exact .int b
  | str x h => exact .str x h
  | tup _ _ ih => exact .tup ih
  | lst _ _ ih => exact .lst ih
theorem Vl.wide {m n m' : Nat} {d : D} (h : Vl m n d) (hm : m ≤ m') : Vl m' n d := by
  induction h with
  | non => exact .non
  | bl b => exact .bl b
  | int b => exact .int b
  | str x h => exact .str x h
  | tup l _ ih => exact .tup (by omega) ih
  | lst l _ ih => exact .lst (by omega) ih
theorem Vl.deep {m n n' : Nat} {d : D} (h : Vl m n d) (hn : n ≤ n') : Vl m n' d := by
  induction h generalizing n' with
  | non => exact .non
  | bl b => exact .bl b
  | int b => exact .int b
  | str x h => exact .str x h
  | tup l _ ih =>
    obtain ⟨q, rfl⟩ : ∃ q, n' = q + 1 := ⟨n' - 1, by omega⟩
    exact .tup l fun d hd => ih d hd (by omega)
  | lst l _ ih =>
    obtain ⟨q, rfl⟩ : ∃ q, n' = q + 1 := ⟨n' - 1, by omega⟩
    exact .lst l fun d hd => ih d hd (by omega)
theorem fl_deep {n n' : Nat} {d : D} (h : Fl n d) (hn : n ≤ n') : Fl n' d := by
  induction h generalizing n' with
  | non => exact .non
  | bl b => exact .bl b
  | int b => exact .int b
  | str x h => exact .str x h
  | tup _ ih =>
    obtain ⟨q, rfl⟩ : ∃ q, n' = q + 1 := ⟨n' - 1, by omega⟩
    exact .tup fun d hd => ih d hd (by omega)
  | lst _ ih =>
    obtain ⟨q, rfl⟩ : ∃ q, n' = q + 1 := ⟨n' - 1, by omega⟩
    exact .lst fun d hd => ih d hd (by omega)
theorem lay0 : PyData.canLay0 (.str (Str.ofString "")) = true := by decide +kernel
theorem layL : PyData.canLay0 (.str (Str.ofString "L")) = true := by decide +kernel
def simples : List D := [.non, .bl true, .bl false, .int 0, .int 1, .int 2, .int (-3), .int 11, .str (Str.ofString ""), .str (Str.ofString "L"), .tup [], .lst [], .tup [.int 3, .int 0], .tup [.int 1, .int 6, .tup []]]
def nears : List D := [.non, .bl true, .bl false, .int 0, .int 1, .int (-1), .int 2, .int 3, .int 6, .int 7, .int 11, .int 12, .str (Str.ofString ""), .tup [], .tup [.int 3, .int 0], .lst [.int 3, .int 0]]
theorem vl_simple (d : D) (h : d ∈ simples) : Vl 4 3 d := by
  simp [simples] at h
  rcases h with rfl | rfl | rfl | rfl | rfl | rfl | rfl | rfl | rfl | rfl | rfl | rfl | rfl | rfl
  · exact .non
  · exact .bl _
  · exact .bl _
  · exact .int _
  · exact .int _
  · exact .int _
  · exact .int _
  · exact .int _
  · exact .str _ lay0
  · exact .str _ layL
  · exact .tup (by simp) (by simp)
  · exact .lst (by simp) (by simp)
  · exact .tup (by simp) (by simp; exact ⟨.int _, .int _⟩)
  · exact .tup (by simp) (by simp; exact ⟨.int _, .int _, .tup (by simp) (by simp)⟩)
theorem vl_near (d : D) (h : d ∈ nears) : Vl 4 3 d := by
  simp [nears] at h
  rcases h with rfl | rfl | rfl | rfl | rfl | rfl | rfl | rfl | rfl | rfl | rfl | rfl | rfl | rfl | rfl | rfl
  · exact .non
  · exact .bl _
  · exact .bl _
  · exact .int _
  · exact .int _
  · exact .int _
  · exact .int _
  · exact .int _
  · exact .int _
  · exact .int _
  · exact .int _
  · exact .int _
  · exact .str _ lay0
  · exact .tup (by simp) (by simp)
  · exact .tup (by simp) (by simp; exact ⟨.int _, .int _⟩)
  · exact .lst (by simp) (by simp; exact ⟨.int _, .int _⟩)
theorem r_any_value (a : Ad) : ∀ (k : Nat) (deep : Int) {μ : Mu} {j : Nat}, 0 ≤ deep → deep < k → Src μ j → ∃ (d : D) (μ' : Mu), R__law_any_value a k [.obj j, .val (.int deep)] μ = .ok (.val d) μ' ∧ Vl 4 (deep.toNat + 3) d ∧ Nxt μ j μ'
  | 0, deep, μ, j, h0, h1, _ => by omega
  | k + 1, deep, μ, j, h0, h1, S => by
    unfold R__law_any_value B__law_any_value
    obtain ⟨way, μ1, e1, w0, w1, n1⟩ := f_pick a 8 S (by omega) (by omega)
    by_cases c : deep < 1 ∨ way < 5
    · obtain ⟨d, μ2, e2, hd, n2⟩ := f_chosen a simples n1.2 (by simp [simples]) (by simp [simples])
      refine ⟨d, μ2, ?_, (vl_simple d hd).deep (by omega), n1.trans n2⟩
      have q := fin_v (d := d) (n1.trans n2).len.symm
      unfold simples at e2
      by_cases c1 : deep < 1
      · simp [e1, c1, e2, q]
      · have c2 : way < 5 := by omega
        simp [e1, c1, c2, e2, q]
    · have c1 : ¬ deep < 1 := by omega
      have c2 : ¬ way < 5 := by omega
      obtain ⟨r, μ2, e2, r0, r1, n2⟩ := f_pick a 5 n1.2 (by omega) (by omega)
      obtain ⟨z, rfl⟩ : ∃ z : Nat, r = z := ⟨r.toNat, by omega⟩
      obtain ⟨μ3, acc, e3, l3, n3, hc1, hc2⟩ := compL_ind (tg := tgName 5) (t := tYesF) (f := eFn 2 (R__law_any_value a k) (aCons (eVarN 0) (aCons (eBin subD (eVarN 1) (eC (.int 1))) (aNil)))) (s := [some (.obj j), some (.val (.int deep)), some (.val (.lst simples)), some (.val (.int way)), none, none])
        (fun i m acc => Nxt μ j m ∧ acc.length = i ∧ ∀ d ∈ acc, Vl 4 ((deep - 1).toNat + 3) d) μ2.length (rngD 0 z) 0 (fun q d m acc hq hI hm => by
          obtain ⟨n3, hcl, hcs⟩ := hI
          rw [Nat.zero_add] at *
          obtain ⟨hq, rfl⟩ := rng_get hq
          obtain ⟨v, μ4, e4, hv, n4⟩ := r_any_value a k (deep - 1) (by omega) (by omega) (n3.2.app (.lst acc))
          obtain ⟨μ4, rfl, n4'⟩ := n4.app (by rw [n3.len]; exact S.lt)
          refine ⟨_, rfl, .inr ⟨m, .val v, v, μ4, rfl, ?_, rfl, by rw [n4'.len, hm], n3.trans n4', by simp [hcl], fun x hx => ?_⟩⟩
          · simp [e4]
          · rcases List.mem_append.mp hx with hx | hx
            · exact hcs x hx
            · rw [List.mem_singleton] at hx; subst hx; exact hv) μ2 [] ⟨n1.trans n2, rfl, by simp⟩ rfl (by rw [rng_len]; exact le_line (by simp; omega))
      rw [rng_len, Nat.zero_add] at hc1
      have edp : (deep - 1).toNat + 3 + 1 = deep.toNat + 3 := by omega
      unfold simples at e3
      by_cases c3 : way = 5
      · refine ⟨.lst acc, μ3, ?_, by rw [← edp]; exact .lst (by omega) hc2, n3⟩
        have q := fin_v (d := .lst acc) n3.len.symm
        simp [e1, c1, c2, e2, rgOk_i (show -16777216 ≤ (z : Int) ∧ (z : Int) ≤ 16777216 by omega), e3]
        simp [c3, q]
      · refine ⟨.tup acc, μ3, ?_, by rw [← edp]; exact .tup (by omega) hc2, n3⟩
        have q := fin_v (d := .tup acc) n3.len.symm
        simp [e1, c1, c2, e2, rgOk_i (show -16777216 ≤ (z : Int) ∧ (z : Int) ≤ 16777216 by omega), e3]
        simp [c3, q]
/-! ### a tuple otherwise at one place -/
theorem cut_up {α : Type} (xs : List α) (k : Nat) (h : k ≤ xs.length) : cutL xs none (some (k : Int)) = xs.take k := by
  have e : HT.sIx xs.length xs.length (some (k : Int)) = k := by
    simp [HT.sIx]
    rw [if_neg (by omega)]
    omega
  unfold cutL
  rw [e]
  simp [HT.sIx]
theorem cut_from {α : Type} (xs : List α) (k : Nat) : cutL xs (some (k : Int)) none = xs.drop k := by
  unfold cutL
  have e : HT.sIx xs.length 0 (some (k : Int)) = min k xs.length := by
    simp [HT.sIx]
    intro h; omega
  have e2 : HT.sIx xs.length xs.length none = xs.length := rfl
  rw [e, e2]
  rcases Nat.le_total k xs.length with h | h
  · rw [Nat.min_eq_left h, List.take_of_length_le (by simp)]
  · rw [Nat.min_eq_right h, List.drop_of_length_le h, List.drop_of_length_le (Nat.le_refl _)]
    simp
theorem cut_mem {α : Type} (xs : List α) (lo hi : Option Int) {d : α} (h : d ∈ cutL xs lo hi) : d ∈ xs := by
  unfold cutL at h
  exact List.mem_of_mem_drop (List.mem_of_mem_take h)
theorem cut_two {α : Type} (xs : List α) (k : Nat) : (cutL xs (some (k : Int)) (some ((k : Int) + 2))).length ≤ 2 := by
  unfold cutL
  rw [List.length_take]
  have e1 : HT.sIx xs.length 0 (some (k : Int)) = min k xs.length := by
    simp [HT.sIx]
    intro h; omega
  have e2 : HT.sIx xs.length xs.length (some ((k : Int) + 2)) = min (k + 2) xs.length := by
    rw [show ((k : Int) + 2) = ((k + 2 : Nat) : Int) by omega]
    simp only [HT.sIx, Int.toNat_natCast]
    rw [if_neg (by omega)]
  rw [e1, e2]
  omega
def RD (r : R) (d : D) : Prop := dataOf r = some d ∧ norm r = .val d
theorem RD.val (d : D) : RD (.val d) d := ⟨rfl, rfl⟩
theorem RD.newL (xs : List D) : RD (.newL xs) (.lst xs) := ⟨rfl, rfl⟩
theorem datas_d {r : R} {d : D} {μ : Mu} {rs : List R} (h : dataOf r = some d) : datas μ (r :: rs) = (datas μ rs).map (d :: ·) := by
  cases r with
  | val d' => cases h; rfl
  | newL xs => cases h; rfl
  | newD xs => cases h; rfl
  | obj i => cases h
theorem RD.ty {r : R} {d : D} (h : RD r d) : (∃ xs, r = .newL xs ∧ d = .lst xs) ∨ r = .val d ∨ ∃ xs, r = .newD xs ∧ d = .dct xs := by
  obtain ⟨h1, h2⟩ := h
  cases r with
  | val d' => cases h1; exact .inr (.inl rfl)
  | newL xs => cases h1; exact .inl ⟨xs, rfl, rfl⟩
  | newD xs => cases h1; exact .inr (.inr ⟨xs, rfl, rfl⟩)
  | obj i => cases h1
theorem f_any_value (a : Ad) (deep : Int) {μ : Mu} {j : Nat} (h0 : 0 ≤ deep) (h1 : deep ≤ 3) (S : Src μ j) : ∃ (d : D) (μ' : Mu), F__law_any_value a [.obj j, .val (.int deep)] μ = .ok (.val d) μ' ∧ Vl 4 (deep.toNat + 3) d ∧ Nxt μ j μ' := r_any_value a 6 deep h0 (by omega) S
theorem fin_o {n : Nat} {xs : List D} {μ : Mu} (h : n = μ.length) : fin n (.rt (.obj n) (μ ++ [.lst xs])) = .ok (.newL xs) μ := by subst h; simp
theorem fin_vx {n : Nat} {d : D} {x : MO} {μ : Mu} (h : n = μ.length) : fin n (.rt (.val d) (μ ++ [x])) = .ok (.val d) μ := by subst h; simp
def tailV (a : Ad) : SF :=
  sSeq (sIf (tOf (eBin eqR (eVarN 5) (eC (.int 0)))) (sRet (eCall (on1 tupleD) (aCons (eBin addD (eSlN (eVarN 3) (eVarN 4)) (eSlL (eVarN 3) (eBin addD (eVarN 4) (eC (.int 1))))) (aNil)))) (sPass)) (sSeq (sIf (tOf (eBin eqR (eVarN 5) (eC (.int 1)))) (sRet (eCall (on1 tupleD) (aCons (eBin addD (eSlN (eVarN 3) (eBin addD (eVarN 4) (eC (.int 1)))) (eSlL (eVarN 3) (eVarN 4))) (aNil)))) (sPass)) (sSeq (sIf (tOf (eBin eqR (eVarN 5) (eC (.int 2)))) (sRet (eCall (on1 tupleD) (aCons (eBin addD (eBin addD (eSlN (eVarN 3) (eVarN 4)) (eRev (eSlB (eVarN 3) (eVarN 4) (eBin addD (eVarN 4) (eC (.int 2)))))) (eSlL (eVarN 3) (eBin addD (eVarN 4) (eC (.int 2))))) (aNil)))) (sPass)) (sSeq (sIf (tOf (eBin eqR (eVarN 5) (eC (.int 3)))) (sRet (eVarN 3)) (sPass)) (sSeq (sIf (tOf (eBin ltD (eVarN 5) (eC (.int 6)))) (sPutL (eFn 2 (F__law_any_value a) (aCons (eVarN 0) (aCons (eC (.int 2)) (aNil)))) (eVarN 3) (eVarN 4)) (sSeq (sSet 7 (eLst (aCons (eC .non) (aCons (eC (.bl true)) (aCons (eC (.bl false)) (aCons (eC (.int 0)) (aCons (eC (.int 1)) (aCons (eNeg (eC (.int 1))) (aCons (eC (.int 2)) (aCons (eC (.int 3)) (aCons (eC (.int 6)) (aCons (eC (.int 7)) (aCons (eC (.int 11)) (aCons (eC (.int 12)) (aCons (eC (.str "")) (aCons (eTup (aNil)) (aCons (eTup (aCons (eC (.int 3)) (aCons (eC (.int 0)) (aNil)))) (aCons (eLst (aCons (eC (.int 3)) (aCons (eC (.int 0)) (aNil)))) (aNil))))))))))))))))))) (sPutL (eFn 2 (F__law_chosen a) (aCons (eVarN 0) (aCons (eVarN 7) (aNil)))) (eVarN 3) (eVarN 4)))) (sRet (eCall (on1 tupleD) (aCons (eVarN 3) (aNil))))))))
theorem Bv (a : Ad) (rec : FF) : B__law_variant a rec =
  sSeq (sNew 3 (eCall (on1 listD) (aCons (eVarN 1) (aNil)))) (sSeq (sIf (tOf (eBin eqR (eVarN 3) (eLst (aNil)))) (sRet (eTup (aCons (eFn 2 (F__law_any_value a) (aCons (eVarN 0) (aCons (eC (.int 1)) (aNil)))) (aNil)))) (sPass)) (sSeq (sPar false 4 5 (eFn 2 (F__law_pick a) (aCons (eVarN 0) (aCons (eCall (on1 lenD) (aCons (eVarN 3) (aNil))) (aNil)))) (eFn 2 (F__law_pick a) (aCons (eVarN 0) (aCons (eC (.int 9)) (aNil))))) (sSeq (sSet 6 (eBin ixD (eVarN 3) (eVarN 4))) (sSeq (sIf (tAndF (tOf (eCall (on2 isiD) (aCons (eVarN 6) (aCons (eC (.ty "tuple")) (aNil))))) (tAndF (tOf (eBin gtD (eVarN 2) (eC (.int 0)))) (tOf (eBin gtD (eVarN 5) (eC (.int 2)))))) (sRet (eBin addD (eBin addD (eCall (on1 tupleD) (aCons (eSlN (eVarN 3) (eVarN 4)) (aNil))) (eTup (aCons (eFn 3 rec (aCons (eVarN 0) (aCons (eVarN 6) (aCons (eBin subD (eVarN 2) (eC (.int 1))) (aNil))))) (aNil)))) (eCall (on1 tupleD) (aCons (eSlL (eVarN 3) (eBin addD (eVarN 4) (eC (.int 1)))) (aNil))))) (sPass)) (tailV a))))) := rfl
theorem two_oL {f : D → D → Mu → Res} {j : Nat} {xs ys : List D} {μ : Mu} (g : μ[j]? = some (.lst xs)) : two f (.obj j) (.newL ys) μ = f (.lst xs) (.lst ys) μ := by simp [two, deref_o g]
theorem kit_tup {m n : Nat} {y : D} (h : Vl m n y) : ∃ t b, tyName y = some t ∧ kitB t "tuple" = some b ∧ (b = true → ∃ ys, y = .tup ys) := by
  cases h with
  | non => exact ⟨_, false, rfl, by decide +kernel, by simp⟩
  | bl b => exact ⟨_, false, rfl, by decide +kernel, by simp⟩
  | int b => exact ⟨_, false, rfl, by decide +kernel, by simp⟩
  | str x _ => exact ⟨_, false, rfl, by decide +kernel, by simp⟩
  | tup _ _ => exact ⟨_, true, rfl, by decide +kernel, fun _ => ⟨_, rfl⟩⟩
  | lst _ _ => exact ⟨_, false, rfl, by decide +kernel, by simp⟩
theorem fin_oL {n : Nat} {xs : List D} {μ : Mu} (h : n = μ.length) : fin n (.rt (.obj n) (μ ++ [.lst xs])) = .ok (.newL xs) μ := by subst h; simp
theorem f_tail (a : Ad) {m n : Nat} (xs : List D) (q : Nat) (way deep : Int) (x1 y : D) {μ : Mu} {j : Nat} (S : Src μ j) (m4 : 4 ≤ m) (mh : m ≤ 100) (hn : 5 ≤ n) (hl : xs.length ≤ m) (hq : q < xs.length) (hv : ∀ d ∈ xs, Vl m n d) (w0 : 0 ≤ way) :
    ∃ (r : R) (d : D) (μ' : Mu), fin μ.length (tailV a [some (.obj j), some (.val x1), some (.val (.int deep)), some (.obj μ.length), some (.val (.int q)), some (.val (.int way)), some (.val y), none] (μ ++ [MO.lst xs])) = .ok r μ' ∧ RD r d ∧ Vl (m + 1) (n + 1) d ∧ Nxt μ j μ' := by
  have hj := S.lt
  have g0 : (μ ++ [MO.lst xs])[μ.length]? = some (.lst xs) := by simp
  have hw : ∀ d ∈ xs, Vl (m + 1) n d := fun d hd => (hv d hd).wide (by omega)
  have eq1 : ((q : Int) + 1) = ((q + 1 : Nat) : Int) := by omega
  have eq2 : ((q : Int) + 2) = ((q + 2 : Nat) : Int) := by omega
  have ct := cut_up xs q (by omega)
  have ct1 := cut_up xs (q + 1) (by omega)
  have cf := cut_from xs q
  have cf1 := cut_from xs (q + 1)
  have cf2 := cut_from xs (q + 2)
  have c2 := cut_two xs q
  rw [← eq1] at ct1 cf1
  rw [← eq2] at cf2
  have z1 : min q xs.length + (xs.length - (q + 1)) ≤ sizeLine := le_line (by omega)
  have z2 : min (q + 1) xs.length + (xs.length - q) ≤ sizeLine := le_line (by omega)
  have z3 : min q xs.length + (cutL xs (some (q : Int)) (some ((q : Int) + 2))).length ≤ sizeLine := le_line (by omega)
  have z4 : min q xs.length + (cutL xs (some (q : Int)) (some ((q : Int) + 2))).length + (xs.length - (q + 2)) ≤ sizeLine := le_line (by omega)
  unfold tailV
  by_cases w : way = 0
  · subst w
    refine ⟨.val (.tup (xs.take q ++ xs.drop (q + 1))), _, μ, ?_, .val _, .tup (by simp; omega) (by
      intro d hd
      rcases List.mem_append.mp hd with hd | hd
      · exact hw d (List.mem_of_mem_take hd)
      · exact hw d (List.mem_of_mem_drop hd)), .refl S⟩
    simp [g0, one_o g0, two_ov g0, deref_o g0, ct, cf1, z1]
  by_cases w : way = 1
  · subst w
    refine ⟨.val (.tup (xs.take (q + 1) ++ xs.drop q)), _, μ, ?_, .val _, .tup (by simp; omega) (by
      intro d hd
      rcases List.mem_append.mp hd with hd | hd
      · exact hw d (List.mem_of_mem_take hd)
      · exact hw d (List.mem_of_mem_drop hd)), .refl S⟩
    simp [g0, one_o g0, two_ov g0, deref_o g0, ct1, cf, z2]
  by_cases w : way = 2
  · subst w
    refine ⟨.val (.tup (xs.take q ++ ((cutL xs (some (q : Int)) (some ((q : Int) + 2))).reverse ++ xs.drop (q + 2)))), _, μ, ?_, .val _, .tup (by simp; omega) (by
      intro d hd
      rcases List.mem_append.mp hd with hd | hd
      · exact hw d (List.mem_of_mem_take hd)
      · rcases List.mem_append.mp hd with hd | hd
        · exact hw d (cut_mem _ _ _ (List.mem_reverse.mp hd))
        · exact hw d (List.mem_of_mem_drop hd)), .refl S⟩
    simp [g0, one_o g0, two_ov g0, deref_o g0, ct, cf2, z3, z4]
  by_cases w : way = 3
  · subst w
    refine ⟨.newL xs, _, μ, ?_, .newL _, .lst (by omega) hw, .refl S⟩
    simp [fin_oL]
  have ixq : ixN xs.length (q : Int) = some q := by
    unfold ixN
    simp
    omega
  by_cases w : way < 6
  · obtain ⟨v, μ1, e1, v1, n1⟩ := f_any_value a 2 (by omega) (by omega) (S.app (.lst xs))
    obtain ⟨μ1, rfl, n1'⟩ := n1.app hj
    have l1 : μ.length = μ1.length := n1'.len.symm
    have g1 : (μ1 ++ [MO.lst xs])[μ.length]? = some (.lst xs) := by rw [l1]; simp
    have st : ∀ y, (μ1 ++ [MO.lst xs]).set μ.length y = μ1 ++ [y] := by intro y; rw [l1]; simp
    have g2 : (μ1 ++ [MO.lst (xs.set q v)])[μ.length]? = some (.lst (xs.set q v)) := by rw [l1]; simp
    refine ⟨.val (.tup (xs.set q v)), _, μ1, ?_, .val _, .tup (by simp; omega) (by
      intro d hd
      rcases List.mem_or_eq_of_mem_set hd with hd | rfl
      · exact hw d hd
      · exact (v1.wide (by omega)).deep (by omega)), n1'⟩
    simp [show ¬ way = 0 by assumption, show ¬ way = 1 by assumption, show ¬ way = 2 by assumption, show ¬ way = 3 by assumption, w, e1, g1, ixq, st, one_o g2]
    exact fin_vx l1
  · obtain ⟨v, μ1, e1, v1, n1⟩ := f_chosen a nears (S.app (.lst xs)) (by simp [nears]) (by simp [nears])
    obtain ⟨μ1, rfl, n1'⟩ := n1.app hj
    have l1 : μ.length = μ1.length := n1'.len.symm
    have g1 : (μ1 ++ [MO.lst xs])[μ.length]? = some (.lst xs) := by rw [l1]; simp
    have st : ∀ y, (μ1 ++ [MO.lst xs]).set μ.length y = μ1 ++ [y] := by intro y; rw [l1]; simp
    have g2 : (μ1 ++ [MO.lst (xs.set q v)])[μ.length]? = some (.lst (xs.set q v)) := by rw [l1]; simp
    refine ⟨.val (.tup (xs.set q v)), _, μ1, ?_, .val _, .tup (by simp; omega) (by
      intro d hd
      rcases List.mem_or_eq_of_mem_set hd with hd | rfl
      · exact hw d hd
      · exact ((vl_near d v1).wide (by omega)).deep (by omega)), n1'⟩
    unfold nears at e1
    simp [show ¬ way = 0 by assumption, show ¬ way = 1 by assumption, show ¬ way = 2 by assumption, show ¬ way = 3 by assumption, w, e1, g1, ixq, st, one_o g2]
    exact fin_vx l1
theorem r_variant (a : Ad) : ∀ (k : Nat) (deep : Int) (m n : Nat) (xs : List D) {μ : Mu} {j : Nat}, 0 ≤ deep → deep < k → 4 ≤ m → m ≤ 100 → 5 + deep.toNat ≤ n → n ≤ 50 → xs.length ≤ m → (∀ d ∈ xs, Vl m n d) → Src μ j →
    ∃ (r : R) (d : D) (μ' : Mu), R__law_variant a k [.obj j, .val (.tup xs), .val (.int deep)] μ = .ok r μ' ∧ RD r d ∧ Vl (m + 1) (n + 1) d ∧ Nxt μ j μ'
  | 0, deep, m, n, xs, μ, j, h0, h1, _, _, _, _, _, _, _ => by omega
  | k + 1, deep, m, n, xs, μ, j, h0, h1, m4, mh, hn, hnh, hl, hv, S => by
    unfold R__law_variant
    rw [Bv]
    have hj := S.lt
    have g0 : (μ ++ [MO.lst xs])[μ.length]? = some (.lst xs) := by simp
    have flx : Fl 60 (.lst xs) := .lst fun d hd => fl_deep (hv d hd).fl (by omega)
    have hw : ∀ d ∈ xs, Vl (m + 1) n d := fun d hd => (hv d hd).wide (by omega)
    cases xs with
    | nil =>
      obtain ⟨v, μ1, e1, v1, n1⟩ := f_any_value a 1 (by omega) (by omega) (S.app (.lst []))
      obtain ⟨μ1, rfl, n1'⟩ := n1.app hj
      refine ⟨.val (.tup [v]), .tup [v], μ1, ?_, .val _, .tup (by simp) (by simp; exact (v1.wide (by omega)).deep (by omega)), n1'⟩
      simp [two_oL g0, eqR_nil flx, e1]
      exact fin_vx n1'.len.symm
    | cons x0 xr =>
      obtain ⟨xs, hxs⟩ : ∃ xs, xs = x0 :: xr := ⟨_, rfl⟩
      rw [← hxs] at g0 flx hw hv hl ⊢
      have xl : 0 < xs.length := by rw [hxs]; simp
      have emp : xs.isEmpty = false := by rw [hxs]; rfl
      obtain ⟨sp, μ1, e1, s0, s1, n1⟩ := f_pick a (xs.length : Int) (S.app (.lst xs)) (by omega) (by omega)
      obtain ⟨μ1, rfl, n1'⟩ := n1.app hj
      obtain ⟨way, μ2, e2, w0, w1, n2⟩ := f_pick a 9 (n1'.2.app (.lst xs)) (by omega) (by omega)
      obtain ⟨μ2, rfl, n2'⟩ := n2.app n1'.2.lt
      have n12 := n1'.trans n2'
      have l2 : μ.length = μ2.length := n12.len.symm
      have g2 : (μ2 ++ [MO.lst xs])[μ.length]? = some (.lst xs) := by rw [l2]; simp
      obtain ⟨q, rfl⟩ : ∃ q : Nat, sp = q := ⟨sp.toNat, by omega⟩
      have hq : q < xs.length := by omega
      have hy : xs[q]? = some xs[q] := List.getElem?_eq_getElem hq
      have hyv := hv _ (List.getElem_mem hq)
      generalize hye : xs[q] = y at hy hyv
      obtain ⟨ty, b, ht, hk, hb⟩ := kit_tup hyv
      have tl := f_tail a xs q way deep (.tup xs) y n12.2 m4 mh (by omega) hl hq hv w0
      rw [← l2] at tl
      obtain ⟨r, d, μ3, et, rd, vd, n3⟩ := tl
      by_cases c : b = true ∧ 0 < deep ∧ 2 < way
      · obtain ⟨rfl, c1, c2⟩ := c
        obtain ⟨ys, rfl⟩ := hb rfl
        cases hyv with
        | tup yl yv =>
          rename_i n'
          obtain ⟨r', d', μ4, e4, rd4, vd4, n4⟩ := r_variant a k (deep - 1) m n' ys (by omega) (by omega) m4 mh (by omega) (by omega) yl yv (n12.2.app (.lst xs))
          obtain ⟨μ4, rfl, n4'⟩ := n4.app n12.2.lt
          have l4 : μ.length = μ4.length := (n12.trans n4').len.symm
          have g4 : (μ4 ++ [MO.lst xs])[μ.length]? = some (.lst xs) := by rw [l4]; simp
          have eq1 : ((q : Int) + 1) = ((q + 1 : Nat) : Int) := by omega
          have ct := cut_up xs q (by omega)
          have cf1 := cut_from xs (q + 1)
          rw [← eq1] at cf1
          have z1 : min q xs.length + 1 ≤ sizeLine := le_line (by omega)
          have z2 : min q xs.length + 1 + (xs.length - (q + 1)) ≤ sizeLine := le_line (by omega)
          refine ⟨.val (.tup (xs.take q ++ ([d'] ++ xs.drop (q + 1)))), _, μ4, ?_, .val _, .tup (by simp; omega) (by
            intro d hd
            rcases List.mem_append.mp hd with hd | hd
            · exact (hw d (List.mem_of_mem_take hd)).deep (by omega)
            · rcases List.mem_append.mp hd with hd | hd
              · rw [List.mem_singleton] at hd; subst hd; exact vd4
              · exact (hw d (List.mem_of_mem_drop hd)).deep (by omega)), n12.trans n4'⟩
          simp [two_oL g0, one_o g0, eqR_nil flx, emp, e1, e2, two_ov g2, one_o g2, atI_nat0, hy, ht, hk, c1, c2, deref_o g2, ct, e4, datas_d rd4.1, g4, cf1, deref_o g4, one_o g4, two_ov g4, z1, z2]
          exact fin_vx l4
      · refine ⟨r, d, μ3, ?_, rd, vd, n12.trans n3⟩
        by_cases c0 : b = true
        · by_cases c1 : 0 < deep
          · have c2 : ¬ 2 < way := fun c2 => c ⟨c0, c1, c2⟩
            simp [two_oL g0, one_o g0, eqR_nil flx, emp, e1, e2, two_ov g2, atI_nat0, hy, ht, hk, c0, c1, c2]
            exact et
          · simp [two_oL g0, one_o g0, eqR_nil flx, emp, e1, e2, two_ov g2, atI_nat0, hy, ht, hk, c0, c1]
            exact et
        · simp [two_oL g0, one_o g0, eqR_nil flx, emp, e1, e2, two_ov g2, atI_nat0, hy, ht, hk, c0]
          exact et
theorem f_variant (a : Ad) (m n : Nat) (xs : List D) {μ : Mu} {j : Nat} (m4 : 4 ≤ m) (mh : m ≤ 100) (hn : 9 ≤ n) (nh : n ≤ 50) (hl : xs.length ≤ m) (hv : ∀ d ∈ xs, Vl m n d) (S : Src μ j) :
    ∃ (r : R) (d : D) (μ' : Mu), F__law_variant a [.obj j, .val (.tup xs), .val (.int 4)] μ = .ok r μ' ∧ RD r d ∧ Vl (m + 1) (n + 1) d ∧ Nxt μ j μ' :=
  r_variant a 6 4 m n xs (by omega) (by omega) m4 mh hn nh hl hv S
/-! ### the law's own right wedge -/
theorem eqv_ints : ∀ xs ys : List Int, PyData.eqvAll (xs.map PyData.int) (ys.map PyData.int) = decide (xs = ys)
  | [], [] => by simp [PyData.eqvAll]
  | [], y :: ys => by simp [PyData.eqvAll]
  | x :: xs, [] => by simp [PyData.eqvAll]
  | x :: xs, y :: ys => by
    rw [List.map_cons, List.map_cons, PyData.eqvAll, eqv_ints xs ys]
    simp [PyData.eqv]
    rfl
theorem py_ints : ∀ xs : List Int, toPys (xs.map D.int) = some (xs.map PyData.int)
  | [] => rfl
  | x :: xs => by rw [List.map_cons, toPys, py_ints xs]; rfl
theorem dep_ints : ∀ xs : List Int, PyData.depthAll (xs.map PyData.int) ≤ 1
  | [] => by simp [PyData.depthAll]
  | x :: xs => by
    have := dep_ints xs
    rw [List.map_cons, PyData.depthAll]
    simp [PyData.depth]
    omega
theorem eqR_ints (xs ys : List Int) (μ : Mu) : eqR (.lst (xs.map .int)) (.lst (ys.map .int)) μ = .ok (.val (.bl (decide (xs = ys)))) μ := by
  have d1 := dep_ints xs
  have d2 := dep_ints ys
  have e : eqD (.lst (xs.map .int)) (.lst (ys.map .int)) = some (decide (xs = ys)) := by
    simp only [eqD, toPy, py_ints, Option.map_some]
    rw [if_pos ⟨by rw [PyData.depth]; omega, by rw [PyData.depth]; omega⟩, PyData.eqv, eqv_ints]
  unfold eqR
  rw [e]
def plD (d : D) : Int := match d with
  | .tup (.int x :: _) => x
  | _ => 0
theorem marksB_bad {ms : List D} : ∀ {p : Option Int}, ms.all isMark = false → marksB p ms = false := by
  induction ms with
  | nil => intro p h; simp at h
  | cons d r ih =>
    intro p h
    unfold marksB
    cases hd : isMark d with
    | false => simp
    | true =>
      obtain ⟨x, c, rfl, _⟩ := isMark_of hd
      rw [List.all_cons, hd, Bool.true_and] at h
      simp [ih h]
theorem marksB_up {ms : List D} : ∀ {p : Option Int}, ms.all isMark = true → (marksB p ms = true ↔ ((p.toList ++ ms.map plD).Pairwise (· < ·))) := by
  induction ms with
  | nil => intro p _; cases p <;> simp [marksB]
  | cons d r ih =>
    intro p h
    rw [List.all_cons, Bool.and_eq_true] at h
    obtain ⟨x, c, rfl, _⟩ := isMark_of h.1
    have e := ih (p := some x) h.2
    unfold marksB
    simp only [h.1, Bool.true_and]
    rw [Bool.and_eq_true, e]
    have ex : plD (.tup [.int x, .int c]) = x := rfl
    cases p with
    | none => simp [ex]
    | some q =>
      simp [ex]
      intro h1 h2 h3 a ha
      have := h1 a ha
      omega
theorem srt_iff (ps : List Int) : ps = srtU ps ↔ ps.Pairwise (· < ·) := by
  constructor
  · intro h; rw [h]; exact srtU_up ps
  · intro h; exact up_uniq h (srtU_up ps) fun z => (srtU_mem z ps).symm
theorem marks_good {ms : List D} (h : ms.all isMark = true) : decide (ms.map plD = srtU (ms.map plD)) = marksB none ms := by
  have e := marksB_up (p := none) h
  simp at e
  by_cases c : (ms.map plD).Pairwise (· < ·)
  · rw [e.mpr (by simpa using c)]
    exact decide_eq_true ((srt_iff _).mpr c)
  · cases q : marksB none ms with
    | true => exact absurd (by simpa using e.mp q) c
    | false => exact decide_eq_false fun h => c ((srt_iff _).mp h)
def wideI (d : D) (lo hi : Int) : Bool := match d with
  | .tup xs => decide (lo ≤ (xs.length : Int)) && decide ((xs.length : Int) ≤ hi)
  | _ => false
theorem f_wideI (a : Ad) (d : D) (lo hi : Int) (μ : Mu) (h : Pl d) : F__law_wide a [.val d, .val (.int lo), .val (.int hi)] μ = .ok (.val (.bl (wideI d lo hi))) μ := by
  unfold F__law_wide B__law_wide
  cases h with
  | tup h =>
    rename_i xs
    by_cases h1 : lo ≤ (xs.length : Int) <;> by_cases h2 : (xs.length : Int) ≤ hi <;> simp [wideI, h1, h2]
  | _ => simp [wideI]
theorem f_wholeI (a : Ad) (d : D) (lo hi : Int) (μ : Mu) (h : Pl d) : F__law_whole a [.val d, .val (.int lo), .val (.int hi)] μ = .ok (.val (.bl (within d lo hi))) μ := by
  unfold F__law_whole B__law_whole
  cases h with
  | int i => by_cases h1 : lo ≤ i <;> by_cases h2 : i ≤ hi <;> simp [h1, h2]
  | _ => simp [within]
theorem f_good_mark (a : Ad) (d : D) (μ : Mu) (h : Pl d) : F__law_good_mark a [.val d] μ = .ok (.val (.bl (isMark d))) μ := by
  unfold F__law_good_mark B__law_good_mark
  cases h with
  | tup h =>
    rename_i xs
    match xs, h with
    | [], _ => simp [isMark, f_wideI, Pl.tup, wideI]
    | [x], h => simp [isMark, f_wideI, Pl.tup h, wideI]
    | [x, y], h =>
      have hx := h x (by simp)
      have hy := h y (by simp)
      simp [f_wideI, Pl.tup h, wideI, f_wholeI, hx, hy]
      cases e : within x 1 11 <;> simp [isMark, e]
    | x :: y :: z :: r, h =>
      have e : wideI (.tup (x :: y :: z :: r)) 2 2 = false := by
        simp [wideI]
        omega
      simp [isMark, f_wideI, Pl.tup h, e]
  | non => simp [isMark, f_wideI, Pl.non, wideI]
  | bl b => simp [isMark, f_wideI, Pl.bl, wideI]
  | int b => simp [isMark, f_wideI, Pl.int, wideI]
  | str b => simp [isMark, f_wideI, Pl.str, wideI]
  | lst h => simp [isMark, f_wideI, Pl.lst h, wideI]
theorem asInts_map : ∀ zs : List Int, asInts (zs.map .int) = some zs
  | [] => rfl
  | z :: zs => by rw [List.map_cons, asInts, asInts_map zs]; rfl
theorem f_good (a : Ad) {m n : Nat} (d : D) (μ : Mu) (h : Vl m n d) (hn : n ≤ 40) : F__law_good a [.val d] μ = .ok (.val (.bl (rightW d))) μ := by
  unfold F__law_good B__law_good
  cases h with
  | tup l h =>
    rename_i n xs
    match xs, h with
    | [], h => simp [rightW, f_wideI, Pl.tup, wideI]
    | [x], h =>
      have p : Pl (.tup [x]) := .tup fun d hd => (h d hd).pl
      simp [rightW, f_wideI, p, wideI]
    | [x, y], h =>
      have p : Pl (.tup [x, y]) := .tup fun d hd => (h d hd).pl
      simp [rightW, f_wideI, p, wideI]
    | x :: y :: z :: w :: r, h =>
      have p : Pl (.tup (x :: y :: z :: w :: r)) := .tup fun d hd => (h d hd).pl
      have e : wideI (.tup (x :: y :: z :: w :: r)) 3 3 = false := by
        simp [wideI]
        omega
      simp [rightW, f_wideI, p, e]
    | [x, y, z], h =>
      have p : Pl (.tup [x, y, z]) := .tup fun d hd => (h d hd).pl
      have hx := (h x (by simp)).pl
      have hy := (h y (by simp)).pl
      have hz := h z (by simp)
      have e0 : wideI (.tup [x, y, z]) 3 3 = true := by simp [wideI]
      cases ex : within x 1 6 with
      | false => 
        have er : rightW (.tup [x, y, z]) = false := by cases z <;> simp [rightW, ex]
        simp [f_wideI, p, e0, f_wholeI, hx, ex, er]
      | true =>
        cases ey : within y 1 11 with
        | false =>
          have er : rightW (.tup [x, y, z]) = false := by cases z <;> simp [rightW, ey]
          simp [f_wideI, p, e0, f_wholeI, hx, ex, hy, ey, er]
        | true =>
          cases hz with
          | tup lz hz =>
            rename_i ms _
            have pz : Pl (.tup ms) := .tup fun d hd => (hz d hd).pl
            have er : rightW (.tup [x, y, .tup ms]) = (decide (ms.length ≤ 5) && marksB none ms) := by simp [rightW, ex, ey]
            by_cases c5 : ms.length ≤ 5
            · have ew : wideI (.tup ms) 0 5 = true := by simp [wideI]; omega
              have flf : Fl 60 (.lst (ms.filter fun d => !isMark d)) := .lst fun d hd => fl_deep (hz d (List.mem_filter.mp hd).1).fl (by omega)
              simp [f_wideI, p, e0, f_wholeI, hx, ex, hy, ey, pz, ew]
              have hzl : ms.length ≤ sizeLine := le_line (by omega)
              rw [comp_pure (fun d => !isMark d) id (fun d hd => ?_) hzl]
              rotate_left
              · refine ⟨_, rfl, fun acc => ?_⟩
                have hd' := (hz d hd).pl
                constructor
                · simp [f_good_mark, hd']
                · intro _
                  exact ⟨.val d, by simp, rfl⟩
              rw [List.map_id]
              have e : (ms.filter fun d => !isMark d).isEmpty = ms.all isMark := by
                cases q : ms.all isMark with
                | false =>
                  cases e : (ms.filter fun d => !isMark d).isEmpty with
                  | false => rfl
                  | true =>
                    exfalso
                    rw [List.isEmpty_iff, List.filter_eq_nil_iff] at e
                    rw [List.all_eq_false] at q
                    obtain ⟨d, hd, h1⟩ := q
                    have := e d hd
                    simp at this
                    exact h1 this
                | true =>
                  rw [List.isEmpty_iff, List.filter_eq_nil_iff]
                  intro d hd
                  simp [List.all_eq_true.mp q d hd]
              have nn := neR_nil flf μ
              rw [e] at nn
              cases q : ms.all isMark with
              | false =>
                rw [q] at nn
                simp [nn, er, marksB_bad q]
              | true =>
                rw [q] at nn
                simp [nn]
                rw [comp_all (fun d => .int (plD d)) (fun d hd => ?_) hzl]
                rotate_left
                · obtain ⟨x, c, rfl, _⟩ := isMark_of (List.all_eq_true.mp q d hd)
                  exact ⟨_, rfl, fun acc => ⟨.val (.int x), by simp, rfl⟩⟩
                have em : ms.map (fun d => D.int (plD d)) = (ms.map plD).map .int := by rw [List.map_map]; rfl
                have esr := srtD_i (μ := μ) (asInts_map (ms.map plD)) (by rw [List.length_map]; omega)
                simp only [em]
                have eq := eqR_ints (ms.map plD) (srtU (ms.map plD)) μ
                rw [marks_good q] at eq
                simp [-List.map_map, esr, eq, er, c5]
            · have ew : wideI (.tup ms) 0 5 = false := by simp [wideI]; omega
              simp [f_wideI, p, e0, f_wholeI, hx, ex, hy, ey, pz, ew, er, c5]
          | non => simp [f_wideI, p, e0, f_wholeI, hx, ex, hy, ey, Pl.non, wideI, rightW]
          | bl b => simp [f_wideI, p, e0, f_wholeI, hx, ex, hy, ey, Pl.bl, wideI, rightW]
          | int b => simp [f_wideI, p, e0, f_wholeI, hx, ex, hy, ey, Pl.int, wideI, rightW]
          | str b _ => simp [f_wideI, p, e0, f_wholeI, hx, ex, hy, ey, Pl.str, wideI, rightW]
          | lst lz hz =>
            rename_i ms _
            have pz : Pl (.lst ms) := .lst fun d hd => (hz d hd).pl
            simp [f_wideI, p, e0, f_wholeI, hx, ex, hy, ey, pz, wideI, rightW]
  | non => simp [f_wideI, Pl.non, wideI, rightW]
  | bl b => simp [f_wideI, Pl.bl, wideI, rightW]
  | int b => simp [f_wideI, Pl.int, wideI, rightW]
  | str b _ => simp [f_wideI, Pl.str, wideI, rightW]
  | lst lz hz =>
    rename_i n ms
    have pz : Pl (.lst ms) := .lst fun d hd => (hz d hd).pl
    simp [f_wideI, pz, wideI, rightW]
theorem f_is_wedge (a : Ad) (d : D) (μ : Mu) (h : Pl d) : F_is_wedge a [.val d] μ = .ok (.val (.bl (rightW d))) μ := by
  unfold F_is_wedge B_is_wedge
  simp [f_right, h]
theorem f_is_bool (a : Ad) (b : Bool) (μ : Mu) : F__law_is_bool a [.val (.bl b), .val (.bl b)] μ = .ok (.val (.bl true)) μ := by
  unfold F__law_is_bool B__law_is_bool
  simp
/-! ### looks -/
def sgn (b : Bool) : Nat := if b then 82 else 76
def lkS (bs : List Bool) : Str := txt (bs.map sgn)
def stepL (h : Int) (b : Bool) : Int := h + if b = decide (h % 2 = 0) then 1 else -1
def wentL : Int → List Bool → Int
  | h, [] => h
  | h, b :: bs => wentL (stepL h b) bs
theorem lk_len (bs : List Bool) : (lkS bs).length = bs.length := by simp [lkS]
def looksB (d : D) : Bool := match d with
  | .str z => decide (z.length ≤ 60) && z.cps.toList.all fun k => decide (k ∈ (Str.ofString "LR").cps.toList)
  | _ => false
theorem sgL : (⟨#[76]⟩ : Str) = Str.ofString "L" := by decide +kernel
theorem sgR : (⟨#[82]⟩ : Str) = Str.ofString "R" := by decide +kernel
theorem lk_good (bs : List Bool) (h : bs.length ≤ 60) : looksB (.str (lkS bs)) = true := by
  have e : (Str.ofString "LR").cps.toList = [76, 82] := by decide +kernel
  unfold looksB
  simp [lk_len, h, e, lkS]
  exact ⟨fun _ => .inl rfl, fun _ => .inr rfl⟩
def sgnD (d : D) : D := match d with
  | .str ⟨a⟩ => match a.toList with
    | [k] => .bl (decide (k ∈ (Str.ofString "LR").cps.toList))
    | _ => .non
  | _ => .non
theorem str_size {x : Str} (h : x.length ≤ 16777216) : x.length ≤ sizeLine := by rw [sizeLine_eq]; omega
theorem f_need_look (a : Ad) (d : D) (μ : Mu) (h : Pl d) (hs : ∀ z, d = .str z → z.length ≤ 1000) : F_need_look a [.val d] μ = if looksB d = true then .ok (.val .non) μ else .exc a.InvalidLook μ := by
  unfold F_need_look B_need_look
  cases h with
  | str z =>
    have hz := hs z rfl
    have hl : z.length ≤ sizeLine := str_size (by omega)
    by_cases h6 : z.length ≤ 60
    · simp [hl, show ¬ (60 : Int) < z.length by omega]
      have hcl : (z.cps.toList.map fun k => (.str ⟨#[k]⟩ : D)).length ≤ sizeLine := by rw [List.length_map]; exact hl
      rw [comp_all sgnD (fun d hd => ?_) hcl]
      rotate_left
      · obtain ⟨k, _, rfl⟩ := List.mem_map.mp hd
        exact ⟨_, rfl, fun acc => ⟨.val (.bl (decide (k ∈ (Str.ofString "LR").cps.toList))), by simp, rfl⟩⟩
      rw [List.map_map]
      have e : (sgnD ∘ fun k => (.str ⟨#[k]⟩ : D)) = fun k => D.bl (decide (k ∈ (Str.ofString "LR").cps.toList)) := rfl
      rw [e]
      have lb : looksB (.str z) = z.cps.toList.all fun k => decide (k ∈ (Str.ofString "LR").cps.toList) := by
        show (decide (z.length ≤ 60) && _) = _
        rw [decide_eq_true h6, Bool.true_and]
      rw [lb]
      generalize (Str.ofString "LR").cps.toList = LR
      generalize z.cps.toList = L
      have q := asBools_map (fun k => decide (k ∈ LR)) L
      have al : (L.map fun k => decide (k ∈ LR)).all id = L.all fun k => decide (k ∈ LR) := by rw [List.all_map]; rfl
      cases hb : L.all fun k => decide (k ∈ LR) with
      | true =>
        rw [hb] at al
        simp [-List.all_map, -List.all_eq_true, q, al]
      | false =>
        rw [hb] at al
        simp [-List.all_map, -List.all_eq_true, q, al]
    · simp [hl, show (60 : Int) < z.length by omega, looksB, h6]
  | _ => simp [looksB]
theorem cb_loop (a : Ad) (x : Str) : ∀ (bs : List Bool) (here : Int) (j2 : Option R) (μ : Mu), ∃ j2', forL (tgName 2) (sSet 1 (eBin addD (eVarN 1) (eIf (tOf (eBin eqR (eBin eqR (eVarN 2) (eC (.str "R"))) (eBin eqR (eBin modD (eVarN 1) (eC (.int 2))) (eC (.int 0))))) (eC (.int 1)) (eNeg (eC (.int 1)))))) (bs.map fun b => .str ⟨#[sgn b]⟩) [some (.val (.str x)), some (.val (.int here)), j2] μ = .nx [some (.val (.str x)), some (.val (.int (wentL here bs))), j2'] μ
  | [], here, j2, μ => ⟨j2, rfl⟩
  | b :: bs, here, j2, μ => by
    obtain ⟨j2', e⟩ := cb_loop a x bs (stepL here b) (some (.val (.str ⟨#[sgn b]⟩))) μ
    refine ⟨j2', ?_⟩
    rw [List.map_cons, forL_cons]
    unfold wentL
    rw [← e]
    have e82 : ((⟨#[82]⟩ : Str) = Str.ofString "R") = True := by simp [sgR]
    have e76 : ((⟨#[76]⟩ : Str) = Str.ofString "R") = False := by simp; decide +kernel
    by_cases h : here % 2 = 0
    · cases b <;> simp [sgn, stepL, h, e82, e76]
    · cases b <;> simp [sgn, stepL, h, e82, e76]
theorem lk_signs (bs : List Bool) : ((lkS bs).cps.toList.map fun k => (.str ⟨#[k]⟩ : D)) = bs.map fun b => .str ⟨#[sgn b]⟩ := by
  unfold lkS
  rw [txt_list, List.map_map]
  rfl
theorem f_copy_behind (a : Ad) (bs : List Bool) (μ : Mu) (h : bs.length ≤ 60) : F_copy_behind a [.val (.str (lkS bs))] μ = .ok (.val (.int (wentL 0 bs))) μ := by
  unfold F_copy_behind B_copy_behind
  have q := f_need_look a (.str (lkS bs)) μ (.str _) (fun z e => by cases e; rw [lk_len]; omega)
  rw [lk_good bs h, if_pos rfl] at q
  obtain ⟨j, e⟩ := cb_loop a (lkS bs) bs 0 none μ
  rw [← lk_signs] at e
  simp [q, -List.map_map]
  rw [e]
  simp
theorem cb_bad (a : Ad) (d : D) (μ : Mu) (h : Pl d) (hs : ∀ z, d = .str z → z.length ≤ 1000) (hr : looksB d = false) : F_copy_behind a [.val d] μ = .exc a.InvalidLook μ := by
  unfold F_copy_behind B_copy_behind
  have q := f_need_look a d μ h hs
  rw [hr, if_neg (by simp)] at q
  simp [q]
theorem went_loop (a : Ad) (x : D) : ∀ (bs : List Bool) (here : Int) (j2 j3 : Option R) (μ : Mu), ∃ j2' j3', forL (tgName 2) (sSeq (sSet 3 (eIf (tOf (eBin eqR (eBin modD (eVarN 1) (eC (.int 2))) (eC (.int 0)))) (eDisp ((.inr "L", eBin subD (eVarN 1) (eC (.int 1))) :: ((.inr "R", eBin addD (eVarN 1) (eC (.int 1))) :: []))) (eDisp ((.inr "R", eBin subD (eVarN 1) (eC (.int 1))) :: ((.inr "L", eBin addD (eVarN 1) (eC (.int 1))) :: []))))) (sSet 1 (eBin dgD (eVarN 3) (eVarN 2)))) (bs.map fun b => .str ⟨#[sgn b]⟩) [some (.val x), some (.val (.int here)), j2, j3] μ = .nx [some (.val x), some (.val (.int (wentL here bs))), j2', j3'] μ
  | [], here, j2, j3, μ => ⟨j2, j3, rfl⟩
  | b :: bs, here, j2, j3, μ => by
    rw [List.map_cons, forL_cons]
    unfold wentL
    have hne : ¬ Str.ofString "L" = Str.ofString "R" := by decide +kernel
    have hne' : ¬ Str.ofString "R" = Str.ofString "L" := by decide +kernel
    have l1 : ∀ x y : D, lookK [(.inr (Str.ofString "L"), x), (.inr (Str.ofString "R"), y)] (.inr (Str.ofString "L")) = some x := fun x y => by simp [lookK]
    have l2 : ∀ x y : D, lookK [(.inr (Str.ofString "L"), x), (.inr (Str.ofString "R"), y)] (.inr (Str.ofString "R")) = some y := fun x y => by simp [lookK, hne]
    have l3 : ∀ x y : D, lookK [(.inr (Str.ofString "R"), x), (.inr (Str.ofString "L"), y)] (.inr (Str.ofString "R")) = some x := fun x y => by simp [lookK]
    have l4 : ∀ x y : D, lookK [(.inr (Str.ofString "R"), x), (.inr (Str.ofString "L"), y)] (.inr (Str.ofString "L")) = some y := fun x y => by simp [lookK, hne']
    have dg : ∀ (kvs : List (Key × D)) (i : Str) (v : D), lookK kvs (.inr i) = some v → dgD (.dct kvs) (.str i) μ = .ok (.val v) μ := fun kvs i v h => by
      show (match lookK kvs (.inr i) with | some d => Res.ok (.val d) μ | none => .bad) = _
      rw [h]
    have m1 : ∀ x y : D, mergeD [] [(.inr (Str.ofString "L"), x), (.inr (Str.ofString "R"), y)] = [(.inr (Str.ofString "L"), x), (.inr (Str.ofString "R"), y)] := fun x y => by simp [mergeD, putKD, hne]
    have m2 : ∀ x y : D, mergeD [] [(.inr (Str.ofString "R"), x), (.inr (Str.ofString "L"), y)] = [(.inr (Str.ofString "R"), x), (.inr (Str.ofString "L"), y)] := fun x y => by simp [mergeD, putKD, hne']
    by_cases h : here % 2 = 0
    · cases b
      · have hs : stepL here false = here - 1 := by simp [stepL, h]; omega
        obtain ⟨j2', j3', e⟩ := went_loop a x bs (here - 1) (some (.val (.str (Str.ofString "L")))) (some (.val (.dct [(.inr (Str.ofString "L"), .int (here - 1)), (.inr (Str.ofString "R"), .int (here + 1))]))) μ
        refine ⟨j2', j3', ?_⟩
        rw [hs, ← e]
        simp [show sgn false = 76 from rfl, h, sgL, m1, dg _ _ _ (l1 _ _)]
      · have hs : stepL here true = here + 1 := by simp [stepL, h]
        obtain ⟨j2', j3', e⟩ := went_loop a x bs (here + 1) (some (.val (.str (Str.ofString "R")))) (some (.val (.dct [(.inr (Str.ofString "L"), .int (here - 1)), (.inr (Str.ofString "R"), .int (here + 1))]))) μ
        refine ⟨j2', j3', ?_⟩
        rw [hs, ← e]
        simp [show sgn true = 82 from rfl, h, sgR, m1, dg _ _ _ (l2 _ _)]
    · cases b
      · have hs : stepL here false = here + 1 := by simp [stepL, h]
        obtain ⟨j2', j3', e⟩ := went_loop a x bs (here + 1) (some (.val (.str (Str.ofString "L")))) (some (.val (.dct [(.inr (Str.ofString "R"), .int (here - 1)), (.inr (Str.ofString "L"), .int (here + 1))]))) μ
        refine ⟨j2', j3', ?_⟩
        rw [hs, ← e]
        simp [show sgn false = 76 from rfl, h, sgL, m2, dg _ _ _ (l4 _ _)]
      · have hs : stepL here true = here - 1 := by simp [stepL, h]; omega
        obtain ⟨j2', j3', e⟩ := went_loop a x bs (here - 1) (some (.val (.str (Str.ofString "R")))) (some (.val (.dct [(.inr (Str.ofString "R"), .int (here - 1)), (.inr (Str.ofString "L"), .int (here + 1))]))) μ
        refine ⟨j2', j3', ?_⟩
        rw [hs, ← e]
        simp [show sgn true = 82 from rfl, h, sgR, m2, dg _ _ _ (l3 _ _)]
theorem f_went (a : Ad) (bs : List Bool) (μ : Mu) : F__law_went a [.val (.str (lkS bs))] μ = .ok (.val (.int (wentL 0 bs))) μ := by
  unfold F__law_went B__law_went
  obtain ⟨j2, j3, e⟩ := went_loop a (.str (lkS bs)) bs 0 none none μ
  rw [← lk_signs] at e
  simp [-List.map_map]
  rw [e]
  simp
/-! ### look_to -/
def toB (c : Int) (k : Nat) : Bool := decide (0 < c) == decide ((k : Int) % 2 = 0)
def toL (c : Int) : List Bool := (List.range (absI c).toNat).map (toB c)
theorem toL_len (c : Int) : (toL c).length = (absI c).toNat := by simp [toL]
theorem went_app : ∀ (xs ys : List Bool) (h : Int), wentL h (xs ++ ys) = wentL (wentL h xs) ys
  | [], ys, h => rfl
  | x :: xs, ys, h => by
    exact went_app xs ys (stepL h x)
theorem went_to (c : Int) : wentL 0 (toL c) = c := by
  have up : ∀ k : Nat, 0 < c → wentL 0 ((List.range k).map (toB c)) = k := by
    intro k hc
    induction k with
    | zero => rfl
    | succ k ih =>
      rw [List.range_succ, List.map_append, went_app, ih]
      have e : toB c k = decide ((k : Int) % 2 = 0) := by unfold toB; rw [decide_eq_true hc]; cases decide ((k : Int) % 2 = 0) <;> rfl
      show stepL k (toB c k) = _
      rw [e]
      unfold stepL
      rw [if_pos rfl]
      omega
  have dn : ∀ k : Nat, ¬ 0 < c → wentL 0 ((List.range k).map (toB c)) = -k := by
    intro k hc
    induction k with
    | zero => rfl
    | succ k ih =>
      rw [List.range_succ, List.map_append, went_app, ih]
      have e : toB c k = !decide ((k : Int) % 2 = 0) := by unfold toB; rw [decide_eq_false hc]; cases decide ((k : Int) % 2 = 0) <;> rfl
      show stepL (-(k : Int)) (toB c k) = _
      rw [e]
      unfold stepL
      have e2 : decide (-(k : Int) % 2 = 0) = decide ((k : Int) % 2 = 0) := by
        by_cases h : (k : Int) % 2 = 0
        · rw [decide_eq_true h, decide_eq_true (by omega)]
        · rw [decide_eq_false h, decide_eq_false (by omega)]
      rw [e2, if_neg (by cases decide ((k : Int) % 2 = 0) <;> simp)]
      omega
  unfold toL
  by_cases hc : 0 < c
  · rw [up _ hc]; unfold absI; split <;> omega
  · rw [dn _ hc]; unfold absI; split <;> omega
theorem join_one (ls : List Bool) (h : ls.length ≤ 1000) (μ : Mu) : joinD (.str (Str.ofString "")) (.lst (ls.map fun b => .str ⟨#[sgn b]⟩)) μ = .ok (.val (.str (lkS ls))) μ := by
  have e0 : (ls.map fun b => D.str ⟨#[sgn b]⟩) = (ls.map fun b => [sgn b]).map fun l => .str (txt l) := by rw [List.map_map]; rfl
  have e1 : (ls.map fun b => [sgn b]).flatten = ls.map sgn := by
    clear e0 h
    induction ls with
    | nil => rfl
    | cons x xs ih => rw [List.map_cons, List.flatten_cons, ih]; rfl
  have e2 : (((ls.map fun b => [sgn b]).map txt).map (·.length)).sum = ls.length := by
    clear e0 e1 h
    induction ls with
    | nil => rfl
    | cons x xs ih => rw [List.map_cons, List.map_cons, List.map_cons, List.sum_cons, ih]; simp; omega
  rw [e0, joinD_s, asStrs_t]
  dsimp only
  rw [if_pos, empty_t, join_t, e1]
  · rfl
  · rw [e2, show (Str.ofString "").length = 0 from rfl]; omega
def toD (c : Int) (d : D) : D := match d with
  | .int k => .str ⟨#[sgn (decide (0 < c) == decide (k % 2 = 0))]⟩
  | _ => .non
theorem f_look_to (a : Ad) (c : Int) (μ : Mu) (h0 : -60 ≤ c) (h1 : c ≤ 60) : F_look_to a [.val (.int c)] μ = .ok (.val (.str (lkS (toL c)))) μ := by
  unfold F_look_to B_look_to
  have hn := f_need_copy a (.int c) 60 μ (.int _)
  have ha0 : 0 ≤ absI c := by unfold absI; split <;> omega
  have ha : absI c ≤ 60 := by unfold absI; split <;> omega
  have cmp : ∀ (f : EF) (s : Sl), (∀ k : Nat, ∀ acc, ∃ r, f (s.set 2 (some (.val (.int k)))) (μ ++ [.lst acc]) = .ok r (μ ++ [.lst acc]) ∧ Dl.dataOf r = some (toD c (.int k))) → compL (tgName 2) tYesF f s μ.length (rngD 0 (absI c).toNat) (μ ++ [.lst []]) = .ok (.newL ((toL c).map fun b => .str ⟨#[sgn b]⟩)) μ := by
    intro f s hf
    rw [comp_all (toD c) (fun d hd => ?_) (by rw [rng_len]; exact le_line (by omega))]
    · rw [rng_map _ (fun k => .str ⟨#[sgn (toB c k)]⟩) _ (fun k => rfl)]
      unfold toL
      rw [List.map_map]; rfl
    · obtain ⟨k, hk, rfl⟩ := rng_mem hd
      rw [Int.zero_add]
      exact ⟨_, rfl, hf k⟩
  have jn := join_one (toL c) (by rw [toL_len]; omega) μ
  have a82 : atI (Str.ofString "RL").cps.toList 0 = some 82 := by decide +kernel
  have a76 : atI (Str.ofString "RL").cps.toList 1 = some 76 := by decide +kernel
  have b82 : atI (Str.ofString "LR").cps.toList 1 = some 82 := by decide +kernel
  have b76 : atI (Str.ofString "LR").cps.toList 0 = some 76 := by decide +kernel
  have hl : (Str.ofString "RL").length ≤ sizeLine := str_size (by decide +kernel)
  have hl2 : (Str.ofString "LR").length ≤ sizeLine := str_size (by decide +kernel)
  have ixR : ∀ (k : Int) (μ : Mu), ixD (.str (Str.ofString "RL")) (.int (k % 2)) μ = .ok (.val (.str ⟨#[sgn (decide (k % 2 = 0))]⟩)) μ := by
    intro k μ
    have : k % 2 = 0 ∨ k % 2 = 1 := by omega
    rcases this with e | e
    · rw [e]; show (if (Str.ofString "RL").length ≤ sizeLine then match atI (Str.ofString "RL").cps.toList 0 with | some d => Res.ok (.val (.str ⟨#[d]⟩)) μ | none => .bad else .bad) = _
      rw [if_pos hl, a82]; rfl
    · rw [e]; show (if (Str.ofString "RL").length ≤ sizeLine then match atI (Str.ofString "RL").cps.toList 1 with | some d => Res.ok (.val (.str ⟨#[d]⟩)) μ | none => .bad else .bad) = _
      rw [if_pos hl, a76]; rfl
  have ixL : ∀ (k : Int) (μ : Mu), ixD (.str (Str.ofString "LR")) (.int (k % 2)) μ = .ok (.val (.str ⟨#[sgn (!decide (k % 2 = 0))]⟩)) μ := by
    intro k μ
    have : k % 2 = 0 ∨ k % 2 = 1 := by omega
    rcases this with e | e
    · rw [e]; show (if (Str.ofString "LR").length ≤ sizeLine then match atI (Str.ofString "LR").cps.toList 0 with | some d => Res.ok (.val (.str ⟨#[d]⟩)) μ | none => .bad else .bad) = _
      rw [if_pos hl2, b76]; rfl
    · rw [e]; show (if (Str.ofString "LR").length ≤ sizeLine then match atI (Str.ofString "LR").cps.toList 1 with | some d => Res.ok (.val (.str ⟨#[d]⟩)) μ | none => .bad else .bad) = _
      rw [if_pos hl2, b82]; rfl
  by_cases hc : 0 < c
  · simp [hn, h0, h1, hc, -absD_i, absD_a, rgOk_i (show -16777216 ≤ absI c ∧ absI c ≤ 16777216 by omega)]
    rw [cmp _ _ (fun k acc => ⟨.val (.str ⟨#[sgn (decide ((k : Int) % 2 = 0))]⟩), by simp [ixR], by simp [toD, hc]⟩)]
    simp [jn, -joinD_s]
  · simp [hn, h0, h1, hc, -absD_i, absD_a, rgOk_i (show -16777216 ≤ absI c ∧ absI c ≤ 16777216 by omega)]
    rw [cmp _ _ (fun k acc => ⟨.val (.str ⟨#[sgn (!decide ((k : Int) % 2 = 0))]⟩), by simp [ixL], by simp [toD, hc]⟩)]
    simp [jn, -joinD_s]
theorem lt_bad (a : Ad) (d : D) (μ : Mu) (h : Pl d) (hr : within d (-60) 60 = false) : F_look_to a [.val d] μ = .exc a.InvalidCopy μ := by
  unfold F_look_to B_look_to
  have hn := f_need_copy a d 60 μ h
  rw [hr, if_neg (by simp)] at hn
  simp [hn]
/-! ### angle -/
def B30 : Int := 1000000000000000000000000000000
theorem f_angle (a : Ad) (w : Wd) (i : Nat) (c : Int) (μ : Mu) (h : w.Ok) (hi : i < w.marks.length) (h0 : -B30 ≤ c) (h1 : c ≤ B30) : F_angle a [.val (wD w), .val (.int i), .val (.int c)] μ = .ok (.val (.int (ang (plc w.marks i) c))) μ := by
  unfold F_angle B_angle
  unfold B30 at h0 h1
  obtain ⟨col, hm⟩ := mark_at hi
  have hn := f_need_copy a (.int c) 1000000000000000000000000000000 μ (.int _)
  have hx := f_need_index a w (.int i) μ (.int _) h.len
  simp [f_wedge_w a h, hn, hx, h0, h1, show (i : Int) ≤ w.marks.length - 1 by omega, atI_nat0, hm, mkD, f_angle_of]
theorem an_c (a : Ad) (w : Wd) (i : Nat) (d : D) (μ : Mu) (h : w.Ok) (hi : i < w.marks.length) (hd : Pl d) (hr : within d (-B30) B30 = false) : F_angle a [.val (wD w), .val (.int i), .val d] μ = .exc a.InvalidCopy μ := by
  unfold F_angle B_angle
  unfold B30 at hr
  have hn := f_need_copy a d 1000000000000000000000000000000 μ hd
  rw [hr, if_neg (by simp)] at hn
  have hx := f_need_index a w (.int i) μ (.int _) h.len
  simp [f_wedge_w a h, hn, hx, show (i : Int) ≤ w.marks.length - 1 by omega]
theorem an_i (a : Ad) (w : Wd) (y d : D) (μ : Mu) (h : w.Ok) (hy : Pl y) (hr : within y 0 (w.marks.length - 1) = false) : F_angle a [.val (wD w), .val y, .val d] μ = .exc a.InvalidIndex μ := by
  unfold F_angle B_angle
  have hx := f_need_index a w y μ hy h.len
  rw [hr, if_neg (by simp)] at hx
  simp [f_wedge_w a h, hx]
theorem an_w (a : Ad) (x y d : D) (μ : Mu) (hx : Pl x) (hr : rightW x = false) : F_angle a [.val x, .val y, .val d] μ = .exc a.InvalidWedge μ := by
  unfold F_angle B_angle
  simp [f_need_wedge a x μ hx, hr]
/-! ### refusals -/
theorem by_one (a : Ad) {j : Nat} {f : Addr} {F : FF} (ht : Fv a j = some (f, 1, F)) {x : D} {μ : Mu} {C : Addr} {t : Str} (h : F [.val x] μ = .exc C μ) (he : a.er C = some t) : F__law_by_one a [.val (.fn f j), .val x] μ = .ok (.val (.str t)) μ := by
  unfold F__law_by_one B__law_by_one
  simp [calleeV_s ht, h, refK_exc he]
theorem by_three (a : Ad) {j : Nat} {f : Addr} {F : FF} (ht : Fv a j = some (f, 3, F)) {x y z : D} {μ : Mu} {C : Addr} {t : Str} (h : F [.val x, .val y, .val z] μ = .exc C μ) (he : a.er C = some t) : F__law_by_three a [.val (.fn f j), .val x, .val y, .val z] μ = .ok (.val (.str t)) μ := by
  unfold F__law_by_three B__law_by_three
  simp [calleeV_s ht, h, refK_exc he]
def oddC : List D := [.non, .int (B30 + 1), .int (-B30 - 1), .bl true, .str (Str.ofString "0")]
def oddK : List D := [.non, .str (Str.ofString "l"), .str (PySem.Txt.mul (Str.ofString "L") 61), .lst [.str (Str.ofString "L")], .int 5, .str (Str.ofString "LRx")]
theorem oddC_ok : ∀ d ∈ oddC, Pl d ∧ within d (-B30) B30 = false ∧ within d (-60) 60 = false := by
  intro d hd
  simp only [oddC, List.mem_cons, List.not_mem_nil, or_false] at hd
  rcases hd with rfl | rfl | rfl | rfl | rfl
  · exact ⟨.non, rfl, rfl⟩
  · exact ⟨.int _, by simp [B30], by simp [B30]⟩
  · exact ⟨.int _, by simp [B30], by simp [B30]⟩
  · exact ⟨.bl _, rfl, rfl⟩
  · exact ⟨.str _, rfl, rfl⟩
theorem oddK_ok : ∀ d ∈ oddK, Pl d ∧ looksB d = false ∧ ∀ z, d = .str z → z.length ≤ 1000 := by
  intro d hd
  simp only [oddK, List.mem_cons, List.not_mem_nil, or_false] at hd
  rcases hd with rfl | rfl | rfl | rfl | rfl | rfl
  · exact ⟨.non, rfl, fun z e => by cases e⟩
  · exact ⟨.str _, by decide +kernel, fun z e => by cases e; decide +kernel⟩
  · exact ⟨.str _, by decide +kernel, fun z e => by cases e; decide +kernel⟩
  · exact ⟨.lst (by simp; exact .str _), rfl, fun z e => by cases e⟩
  · exact ⟨.int _, rfl, fun z e => by cases e⟩
  · exact ⟨.str _, by decide +kernel, fun z e => by cases e; decide +kernel⟩
theorem pl_wl (w : Wd) : Pl (.lst [.int w.part, .int w.eye, .tup (w.marks.map mkD)]) := .lst fun d hd => by
  simp at hd
  rcases hd with rfl | rfl | rfl
  · exact .int _
  · exact .int _
  · exact .tup fun d hd => by
      obtain ⟨m, _, rfl⟩ := List.mem_map.mp hd
      exact pl_mk m
theorem f_refusals (a : Ad) (E : Era a) (w : Wd) (i : Nat) (μ : Mu) (h : w.Ok) (hi : i < w.marks.length) : F__law_refusals a [.val (wD w), .val (.int i)] μ = .ok (.val (.bl true)) μ := by
  unfold F__law_refusals B__law_refusals
  have t0 : Fv a 0 = some (a.angle, 3, F_angle a) := rfl
  have t1 : Fv a 1 = some (a.copy_behind, 1, F_copy_behind a) := rfl
  have t2 : Fv a 2 = some (a.look_to, 1, F_look_to a) := rfl
  have hl := h.len
  have hz : w.marks.length ≤ sizeLine := le_line (by omega)
  simp
  refine for_fin (fun q s m => m = μ ∧ ∃ j2, s = [some (.val (wD w)), some (.val (.int i)), j2]) ⟨rfl, none, rfl⟩ (fun q d s m hq hI => ?_) (fun s m hI => ?_)
  · obtain ⟨rfl, j2, rfl⟩ := hI
    refine ⟨_, rfl, ?_⟩
    have hd := oddC_ok d (by
      have := List.mem_of_getElem? hq
      simpa [oddC, B30] using this)
    have s1 := by_three a t0 (an_c a w i d m h hi hd.1 hd.2.1) E.e_InvalidCopy
    have s2 := by_one a t2 (lt_bad a d m hd.1 hd.2.2) E.e_InvalidCopy
    simp [s1, s2]
  · obtain ⟨rfl, j2, rfl⟩ := hI
    simp [hz]
    refine for_fin (fun q s m' => m' = m ∧ ∃ j2, s = [some (.val (wD w)), some (.val (.int i)), j2]) ⟨rfl, j2, rfl⟩ (fun q d s m' hq hI => ?_) (fun s m' hI => ?_)
    · obtain ⟨rfl, j2, rfl⟩ := hI
      refine ⟨_, rfl, ?_⟩
      have hd : Pl d ∧ within d 0 (w.marks.length - 1) = false := by
        match q, hq with
        | 0, hq => cases hq; exact ⟨.non, rfl⟩
        | 1, hq => cases hq; exact ⟨.int _, by simp⟩
        | 2, hq => cases hq; exact ⟨.int _, by simp; omega⟩
        | 3, hq => cases hq; exact ⟨.bl _, rfl⟩
        | q + 4, hq => simp at hq
      have s1 := by_three a t0 (an_i a w d .non m' h hd.1 hd.2) E.e_InvalidIndex
      simp [s1]
    · obtain ⟨rfl, j2, rfl⟩ := hI
      have hL : (Str.ofString "L").length ≤ 1000 := by decide +kernel
      simp [hL]
      refine for_fin (fun q s m => m = m' ∧ ∃ j2, s = [some (.val (wD w)), some (.val (.int i)), j2]) ⟨rfl, j2, rfl⟩ (fun q d s m hq hI => ?_) (fun s m hI => ?_)
      · obtain ⟨rfl, j2, rfl⟩ := hI
        refine ⟨_, rfl, ?_⟩
        have hd := oddK_ok d (List.mem_of_getElem? hq)
        have s1 := by_one a t1 (cb_bad a d m hd.1 hd.2.2 hd.2.1) E.e_InvalidLook
        simp [s1]
      · obtain ⟨rfl, j2, rfl⟩ := hI
        have s1 := by_three a t0 (an_w a (.lst [.int w.part, .int w.eye, .tup (w.marks.map mkD)]) .non .non m (pl_wl w) rfl) E.e_InvalidWedge
        have s1' : F__law_by_three a [.val (.fn a.angle 0), .newL [.int w.part, .int w.eye, .tup (w.marks.map mkD)], .val .non, .val .non] m = .ok (.val (.str (Str.ofString "wedge"))) m := s1
        have s2 := by_one a t2 (lt_bad a (.int (-61)) m (.int _) rfl) E.e_InvalidCopy
        have el : listD (wD w) m = .ok (.newL [.int w.part, .int w.eye, .tup (w.marks.map mkD)]) m := rfl
        simp [s1', s2, el]
/-! ### the law -/
theorem vl_mk {m n : Nat} (hm : 2 ≤ m) (p : Int × Int) : Vl m (n + 1) (mkD p) := .tup (by simp; omega) (by simp; exact ⟨.int _, .int _⟩)
theorem vl_mks {m n : Nat} (hm : 5 ≤ m) {ms : List (Int × Int)} (h : ms.length ≤ m) : Vl m (n + 2) (.tup (ms.map mkD)) := .tup (by simpa using h) (fun d hd => by
  obtain ⟨p, _, rfl⟩ := List.mem_map.mp hd
  exact vl_mk (by omega) p)
theorem app_oR {μ : Mu} {j : Nat} {acc : List D} {r : R} {d : D} (h : μ[j]? = some (.lst acc)) (hl : acc.length < sizeLine) (hr : Dl.dataOf r = some d) : appR (.obj j) r μ = .ok (.val .non) (μ.set j (.lst (acc ++ [d]))) := by
  simp [appR, h, hl, hr]
def vals0 (w : Wd) : List D := [wD w, .lst [.int w.part, .int w.eye, .tup (w.marks.map mkD)], .tup [.int w.part, .int w.eye], .tup [.int w.part, .int w.eye, .tup (w.marks.map mkD), .int 1],
  .tup [.int 7, .int w.eye, .tup (w.marks.map mkD)], .tup [.int w.part, .int w.eye, .tup ((w.marks ++ w.marks).map mkD)], .int 5]
def vals1 (w : Wd) : List D := vals0 w ++ [.tup [.int w.part, .int w.eye, .tup (w.marks.map mkD).reverse]]
theorem vals_ok (w : Wd) (hl : w.marks.length ≤ 5) : ∀ d ∈ vals1 w, Vl 11 11 d := by
  intro d hd
  have m1 : Vl 11 10 (.tup (w.marks.map mkD)) := vl_mks (by omega) (by omega)
  have m2 : Vl 11 10 (.tup ((w.marks ++ w.marks).map mkD)) := vl_mks (by omega) (by simp; omega)
  have m3 : Vl 11 10 (.tup (w.marks.map mkD).reverse) := by rw [← List.map_reverse]; exact vl_mks (by omega) (by simp; omega)
  unfold vals1 vals0 at hd
  rcases List.mem_append.mp hd with hd | hd
  · simp only [List.mem_cons, List.not_mem_nil, or_false] at hd
    rcases hd with rfl | rfl | rfl | rfl | rfl | rfl | rfl
    · refine .tup (by simp) fun d hd => ?_
      simp only [List.mem_cons, List.not_mem_nil, or_false] at hd
      rcases hd with rfl | rfl | rfl
      · exact .int _
      · exact .int _
      · exact m1
    · refine .lst (by simp) fun d hd => ?_
      simp only [List.mem_cons, List.not_mem_nil, or_false] at hd
      rcases hd with rfl | rfl | rfl
      · exact .int _
      · exact .int _
      · exact m1
    · refine .tup (by simp) fun d hd => ?_
      simp only [List.mem_cons, List.not_mem_nil, or_false] at hd
      rcases hd with rfl | rfl <;> exact .int _
    · refine .tup (by simp) fun d hd => ?_
      simp only [List.mem_cons, List.not_mem_nil, or_false] at hd
      rcases hd with rfl | rfl | rfl | rfl
      · exact .int _
      · exact .int _
      · exact m1
      · exact .int _
    · refine .tup (by simp) fun d hd => ?_
      simp only [List.mem_cons, List.not_mem_nil, or_false] at hd
      rcases hd with rfl | rfl | rfl
      · exact .int _
      · exact .int _
      · exact m1
    · refine .tup (by simp) fun d hd => ?_
      simp only [List.mem_cons, List.not_mem_nil, or_false] at hd
      rcases hd with rfl | rfl | rfl
      · exact .int _
      · exact .int _
      · exact m2
    · exact .int _
  · rw [List.mem_singleton] at hd
    subst hd
    refine .tup (by simp) fun d hd => ?_
    simp only [List.mem_cons, List.not_mem_nil, or_false] at hd
    rcases hd with rfl | rfl | rfl
    · exact .int _
    · exact .int _
    · exact m3
theorem c_list (w : Wd) (μ : Mu) : listD (wD w) μ = .ok (.newL [.int w.part, .int w.eye, .tup (w.marks.map mkD)]) μ := rfl
theorem c_sl2 (w : Wd) (μ : Mu) : slD (wD w) none (some 2) μ = .ok (.val (.tup [.int w.part, .int w.eye])) μ := rfl
theorem c_sl1 (w : Wd) (μ : Mu) : slD (wD w) (some 1) none μ = .ok (.val (.tup [.int w.eye, .tup (w.marks.map mkD)])) μ := rfl
theorem c_add (w : Wd) (μ : Mu) : addD (wD w) (.tup [.int 1]) μ = .ok (.val (.tup [.int w.part, .int w.eye, .tup (w.marks.map mkD), .int 1])) μ := by
  unfold wD
  rw [addD_t, if_pos (le_line (by simp))]
  rfl
theorem c_mul (w : Wd) (h : 0 < w.marks.length) (hl : w.marks.length ≤ 5) (μ : Mu) : mulTD (.tup (w.marks.map mkD)) (.int 2) μ = .ok (.val (.tup ((w.marks ++ w.marks).map mkD))) μ := by
  rw [mulTD_k (by intro e; rw [List.map_eq_nil_iff] at e; rw [e] at h; simp at h) (by omega) (by omega) (by rw [List.length_map]; omega)]
  simp [List.replicate]
theorem c_rev (w : Wd) (μ : Mu) : revD (.tup (w.marks.map mkD)) μ = .ok (.val (.tup (w.marks.reverse.map mkD))) μ := by
  rw [revD_t, List.map_reverse]
def w0 : Wd := ⟨1, 6, [(3, 0)]⟩
theorem w0_ok : w0.Ok := ⟨by decide, by decide, by decide, by decide, by decide, by decide, by decide⟩
theorem w0_D : D.tup [.int 1, .int 6, .tup [.tup [.int 3, .int 0]]] = wD w0 := rfl
def w1D : D := .tup [.int 1, .int 6, .tup [.tup [.int 3, .int 0], .tup [.int 3, .int 1]]]
theorem w1_pl : Pl w1D := .tup fun d hd => by
  simp only [List.mem_cons, List.not_mem_nil, or_false] at hd
  rcases hd with rfl | rfl | rfl
  · exact .int _
  · exact .int _
  · exact .tup fun d hd => by
      simp only [List.mem_cons, List.not_mem_nil, or_false] at hd
      rcases hd with rfl | rfl
      · exact .tup fun d hd => by
          simp only [List.mem_cons, List.not_mem_nil, or_false] at hd
          rcases hd with rfl | rfl <;> exact .int _
      · exact .tup fun d hd => by
          simp only [List.mem_cons, List.not_mem_nil, or_false] at hd
          rcases hd with rfl | rfl <;> exact .int _
theorem l_e1 : Str.ofString "RLR" = lkS [true, false, true] := by decide +kernel
theorem l_e2 : Str.ofString "LRLL" = lkS [false, true, false, false] := by decide +kernel
theorem l_e3 : Str.ofString "RR" = lkS [true, true] := by decide +kernel
theorem l_e4 : lkS (toL (-2)) = Str.ofString "LR" := by decide +kernel
theorem l_e5 : lkS (toL 0) = Str.ofString "" := by decide +kernel
theorem l_e6 : wentL 0 [true, false, true] = 3 := by decide +kernel
theorem l_e7 : wentL 0 [false, true, false, false] = -2 := by decide +kernel
theorem l_e8 : wentL 0 [true, true] = 0 := by decide +kernel
/-- the drawn look -/
theorem f_look (a : Ad) {μ : Mu} {j z : Nat} (h : Src μ j) (hz : z ≤ 60) (s : Sl) (hs : s.length = 13) (h2 : s[2]? = some (some (.obj j))) :
    ∃ (bs : List Bool) (μ' : Mu), compL (tgName 5) tYesF (eFn 2 (F__law_chosen a) (aCons (eVarN 2) (aCons (eLst (aCons (eC (.str "L")) (aCons (eC (.str "R")) (aNil)))) (aNil)))) s μ.length (rngD 0 z) (μ ++ [.lst []]) = .ok (.newL (bs.map fun b => .str ⟨#[sgn b]⟩)) μ' ∧ bs.length = z ∧ Nxt μ j μ' := by
  obtain ⟨μ3, acc, e3, l3, n3, cs, hc1, hc2⟩ := compL_ind (tg := tgName 5) (t := tYesF) (f := eFn 2 (F__law_chosen a) (aCons (eVarN 2) (aCons (eLst (aCons (eC (.str "L")) (aCons (eC (.str "R")) (aNil)))) (aNil)))) (s := s)
    (fun i m acc => Nxt μ j m ∧ ∃ cs : List Bool, acc = cs.map (fun b => .str ⟨#[sgn b]⟩) ∧ cs.length = i) μ.length (rngD 0 z) 0 (fun i d m acc hi hI hm => by
      obtain ⟨n3, cs, rfl, hcl⟩ := hI
      rw [Nat.zero_add] at *
      obtain ⟨hi, rfl⟩ := rng_get hi
      obtain ⟨d, μ4, e4, hd, n4⟩ := f_chosenL a [.str (Str.ofString "L"), .str (Str.ofString "R")] (n3.2.app (.lst (cs.map fun b => .str ⟨#[sgn b]⟩))) (by simp) (by simp)
      obtain ⟨μ4, rfl, n4'⟩ := n4.app (by rw [n3.len]; exact h.lt)
      obtain ⟨b, rfl⟩ : ∃ b : Bool, d = .str ⟨#[sgn b]⟩ := by
        simp at hd
        rcases hd with rfl | rfl
        · exact ⟨false, by rw [show sgn false = 76 from rfl, sgL]⟩
        · exact ⟨true, by rw [show sgn true = 82 from rfl, sgR]⟩
      refine ⟨_, rfl, .inr ⟨m, .val (.str ⟨#[sgn b]⟩), .str ⟨#[sgn b]⟩, μ4, rfl, ?_, rfl, by rw [n4'.len, hm], n3.trans n4', cs ++ [b], by simp, by simp [hcl]⟩⟩
      have g2 : (s.set 5 (some (.val (.int (0 + (i : Int))))))[2]? = some (some (.obj j)) := by rw [List.getElem?_set_ne (by omega)]; exact h2
      simp [h2, e4]) μ [] ⟨.refl h, [], rfl, rfl⟩ rfl (by rw [rng_len]; exact le_line (by simp; omega))
  rw [rng_len, Nat.zero_add] at hc2
  subst hc1
  exact ⟨cs, μ3, e3, hc2, n3⟩
def VI (ns : List Int) (i len : Nat) (w : Wd) (t : Nat) (s : Sl) (m' : Mu) : Prop :=
  Src m' len ∧ (∃ vs, m'[len + 1]? = some (.lst vs) ∧ vs.length ≤ 8 + 2 * t ∧ ∀ d ∈ vs, Vl 11 11 d) ∧ ∃ j5 j6 j7 j8 j9 j10 j11 j12, s = [some (.val (.frl (ns.map .int))), some (.val (.int i)), some (.obj len), some (.val (wD w)), some (.obj (len + 1)), j5, j6, j7, j8, j9, j10, j11, j12]
theorem Src.setNe {μ : Mu} {j i : Nat} (h : Src μ j) (hi : i ≠ j) (x : MO) : Src (μ.set i x) j := by
  obtain ⟨b, st, e, r⟩ := h
  exact ⟨b, st, by rw [List.getElem?_set_ne hi]; exact e, r⟩
theorem get_set {μ : Mu} {i : Nat} {x y : MO} (h : μ[i]? = some x) : (μ.set i y)[i]? = some y := by
  have := (List.getElem?_eq_some_iff.mp h).1
  rw [List.getElem?_set_self this]
theorem law_true (a : Ad) (E : Era a) (ns : List Int) (h63 : ns.length ≤ 63) (hb : ∀ z ∈ ns, Builtin.Int.intBits z ≤ 1048576) : ∃ μ, F_law a [.val (.frl (ns.map .int))] [] = .ok (.val (.bl true)) μ := by
  unfold F_law B_law
  obtain ⟨K, hK, hK2⟩ : ∃ K : Nat, (max 6 (min 20 (ns.length : Int))) = K ∧ K ≤ 20 := ⟨(max 6 (min 20 (ns.length : Int))).toNat, by omega, by omega⟩
  simp [hK, rgOk_i (show -16777216 ≤ (K : Int) ∧ (K : Int) ≤ 16777216 by omega)]
  refine for_ind (fun i s m => ∃ j1 j2 j3 j4 j5 j6 j7 j8 j9 j10 j11 j12, s = [some (.val (.frl (ns.map .int))), j1, j2, j3, j4, j5, j6, j7, j8, j9, j10, j11, j12]) (fun r => ∃ μ, fin 0 (r.bind _) = .ok (.val (.bl true)) μ)
    ⟨none, none, none, none, none, none, none, none, none, none, none, none, rfl⟩ (fun i d s m hi hI => ?_) (fun s m hI => ?_)
  · obtain ⟨j1, j2, j3, j4, j5, j6, j7, j8, j9, j10, j11, j12, rfl⟩ := hI
    obtain ⟨hi, rfl⟩ := rng_get hi
    refine ⟨_, rfl, ?_⟩
    rw [Int.zero_add]
    obtain ⟨b, st, q1, hb0, hs0, hs1⟩ := f_source a ns i m (by omega)
    have S1 : Src (m ++ [.lst [.int b, .int st]]) m.length := ⟨b, st, by simp, hb0, hs0, hs1⟩
    obtain ⟨w, μ2, q2, hw, hwl, n2⟩ := f_drawn_wedge a 1 5 S1 (by omega) (by omega) (by omega)
    have hl := hw.len
    have l2 : μ2.length = m.length + 1 := by rw [n2.len]; simp
    have g2 : (μ2 ++ [MO.lst (vals0 w)])[m.length + 1]? = some (.lst (vals0 w)) := by rw [← l2]; simp
    have hv0 : (vals0 w).length < sizeLine := by rw [sizeLine_eq]; show 7 < 16777216; omega
    have st2 : ∀ y, (μ2 ++ [MO.lst (vals0 w)]).set (m.length + 1) y = μ2 ++ [y] := by intro y; rw [← l2]; simp
    have ev0 : [wD w, .lst [.int w.part, .int w.eye, .tup (w.marks.map mkD)], .tup [.int w.part, .int w.eye], .tup [.int w.part, .int w.eye, .tup (w.marks.map mkD), .int 1], .tup [.int 7, .int w.eye, .tup (w.marks.map mkD)], .tup [.int w.part, .int w.eye, .tup ((w.marks ++ w.marks).map mkD)], .int 5] = vals0 w := rfl
    have cm := c_mul w (by omega) hl
    have hv7 : (vals0 w).length ≤ 1000 := by show 7 ≤ 1000; omega
    have z3 : 3 ≤ sizeLine := le_line (by omega)
    simp [q1, q2, c_list, c_sl2, c_sl1, c_add, cm, -List.map_append, -List.map_reverse, ev0, l2, z3, hv7, isL_o g2, app_o g2 hv0, st2, rgOk_i (show -16777216 ≤ (30 : Int) ∧ (30 : Int) ≤ 16777216 by omega)]
    refine for_turnB (VI ns i m.length w) ⟨n2.2.app (.lst (vals1 w)), ⟨vals1 w, by rw [← l2]; simp [vals1], by simp [vals1, vals0], vals_ok w hl⟩, j5, j6, j7, j8, j9, j10, j11, j12, rfl⟩ (fun t d s m' ht hI => ?_) (fun s m' hI => ?_)
    · obtain ⟨S2, ⟨vs, gv, vl, vok⟩, j5, j6, j7, j8, j9, j10, j11, j12, rfl⟩ := hI
      obtain ⟨ht1, rfl⟩ := rng_get ht
      refine ⟨_, rfl, ?_⟩
      have vw : Vl 5 9 (wD w) := by
        refine .tup (by simp) fun d hd => ?_
        simp only [List.mem_cons, List.not_mem_nil, or_false] at hd
        rcases hd with rfl | rfl | rfl
        · exact .int _
        · exact .int _
        · exact vl_mks (by omega) (by omega)
      obtain ⟨r, d, μ3, e3, rd, vd, n3⟩ := f_variant a 5 9 [.int w.part, .int w.eye, .tup (w.marks.map mkD)] (by omega) (by omega) (by omega) (by omega) (by simp) (by
        cases vw with | tup _ h => exact fun d hd => (h d hd).deep (by omega)) S2
      have e3 : F__law_variant a [.obj m.length, .val (wD w), .val (.int 4)] m' = .ok r μ3 := e3
      have g3 : μ3[m.length + 1]? = some (.lst vs) := by rw [n3.get (by omega)]; exact gv
      have vl3 : vs.length < sizeLine := by rw [sizeLine_eq]; omega
      have S4 : Src (μ3.set (m.length + 1) (.lst (vs ++ [d]))) m.length := n3.2.setNe (by omega) _
      have g4 : (μ3.set (m.length + 1) (.lst (vs ++ [d])))[m.length + 1]? = some (.lst (vs ++ [d])) := get_set g3
      have vok4 : ∀ x ∈ vs ++ [d], Vl 11 11 x := by
        intro x hx
        rcases List.mem_append.mp hx with hx | hx
        · exact vok x hx
        · rw [List.mem_singleton] at hx; subst hx; exact (vd.wide (by omega)).deep (by omega)
      obtain ⟨ty, b, hty, hk, hb'⟩ := kit_tup vd
      cases b with
      | false =>
        simp [e3, rd.2, isL_o g3, app_o g3 vl3, hty, hk]
        exact ⟨S4, ⟨_, g4, by simp; omega, vok4⟩, _, _, _, _, _, _, _, _, rfl⟩
      | true =>
        obtain ⟨ys, rfl⟩ := hb' rfl
        obtain ⟨p, μ5, e5, p0, p1, n5⟩ := f_pick a 3 S4 (by omega) (by omega)
        by_cases hp : p = 0
        · cases vd with
          | tup yl yv =>
            obtain ⟨r6, d6, μ6, e6, rd6, vd6, n6⟩ := f_variant a 6 9 ys (by omega) (by omega) (by omega) (by omega) yl yv n5.2
            have g5 : μ5[m.length + 1]? = some (.lst (vs ++ [.tup ys])) := by rw [n5.get (by omega)]; exact g4
            have g6 : μ6[m.length + 1]? = some (.lst (vs ++ [.tup ys])) := by rw [n6.get (by omega)]; exact g5
            have vl6 : (vs ++ [D.tup ys]).length < sizeLine := by rw [sizeLine_eq]; simp; omega
            simp [e3, rd.2, isL_o g3, app_o g3 vl3, hty, hk, e5, hp, isL_o g5, e6, app_oR g6 vl6 rd6.1, -List.append_assoc]
            refine ⟨n6.2.setNe (by omega) _, ⟨_, get_set g6, by simp; omega, fun x hx => ?_⟩, _, _, _, _, _, _, _, _, rfl⟩
            rcases List.mem_append.mp hx with hx | hx
            · exact vok4 x hx
            · rw [List.mem_singleton] at hx; subst hx; exact (vd6.wide (by omega)).deep (by omega)
        · simp [e3, rd.2, isL_o g3, app_o g3 vl3, hty, hk, e5, hp]
          exact ⟨n5.2, ⟨vs ++ [.tup ys], by rw [n5.get (by omega)]; exact g4, by simp; omega, vok4⟩, _, _, _, _, _, _, _, _, rfl⟩
    · obtain ⟨S2, ⟨vs, gv, vl, vok⟩, j5, j6, j7, j8, j9, j10, j11, j12, rfl⟩ := hI
      rw [rng_len] at vl
      obtain ⟨v, μ3, e3, v3, n3⟩ := f_any_value a 3 (by omega) (by omega) S2
      have g3 : μ3[m.length + 1]? = some (.lst vs) := by rw [n3.get (by omega)]; exact gv
      have z1 : vs.length + 1 ≤ sizeLine := le_line (by
        have : (Int.toNat 30) = 30 := rfl
        omega)
      have vok3 : ∀ x ∈ vs ++ [v], Vl 11 11 x := by
        intro x hx
        rcases List.mem_append.mp hx with hx | hx
        · exact vok x hx
        · rw [List.mem_singleton] at hx; subst hx; exact (v3.wide (by omega)).deep (by omega)
      simp [e3, two_oL g3, z1]
      refine for_turnB (fun t s m'' => m'' = μ3 ∧ ∃ j6, s = [some (.val (.frl (ns.map .int))), some (.val (.int i)), some (.obj m.length), some (.val (wD w)), some (.obj (m.length + 1)), j5, j6, j7, j8, j9, j10, j11, j12])
        ⟨rfl, j6, rfl⟩ (fun q d s m'' hq hI => ?_) (fun s m'' hI => ?_)
      · obtain ⟨rfl, j6, rfl⟩ := hI
        refine ⟨_, rfl, ?_⟩
        have vd := vok3 d (List.mem_of_getElem? hq)
        simp [f_is_wedge a d _ vd.pl, f_good a d _ vd (by omega), f_is_bool]
      · obtain ⟨rfl, j6, rfl⟩ := hI
        have hz : w.marks.length ≤ sizeLine := le_line (by omega)
        obtain ⟨x, μ4, e4, x0, x1, n4⟩ := f_pick a (w.marks.length : Int) n3.2 (by omega) (by omega)
        obtain ⟨ix, rfl⟩ : ∃ ix : Nat, x = ix := ⟨x.toNat, by omega⟩
        have hix : ix < w.marks.length := by omega
        obtain ⟨col, hm⟩ := mark_at hix
        have fu := f_unfolded a (plc w.marks ix) 25 μ4 (by omega)
        simp at fu
        obtain ⟨p, μ5, e5, p0, p1, n5⟩ := f_pick a 10000000000000000000000000000 n4.2 (by omega) (by omega)
        simp [hz, e4, atI_nat0, hm, mkD, fu, e5, unf_keys]
        refine for_turnB (fun t s m'' => m'' = μ5 ∧ ∃ j10, s = [some (.val (.frl (ns.map .int))), some (.val (.int i)), some (.obj m.length), some (.val (wD w)), some (.obj (m.length + 1)), j5, j6, some (.val (.int ix)), some (.val (.dct (unfK (plc w.marks ix) 25))), some (.val (.int (2 * p))), j10, j11, j12])
          ⟨rfl, j10, by simp⟩ (fun q d s m'' hq hI => ?_) (fun s m'' hI => ?_)
        · obtain ⟨rfl, j10, rfl⟩ := hI
          rw [List.getElem?_map] at hq
          cases hc : (keysK 25)[q]? with
          | none => rw [hc] at hq; cases hq
          | some c =>
            rw [hc] at hq
            cases hq
            have hcm := (keysK_mem 25 c).mp (List.mem_of_getElem? hc)
            refine ⟨_, rfl, ?_⟩
            have l1 := dg_s m'' (show lookK (unfK (plc w.marks ix) 25) (.inl c) = some (.int (ang (plc w.marks ix) c)) by rw [unf_look, if_pos hcm])
            have r1 := f_angle a w ix c m'' hw hix (by unfold B30; omega) (by unfold B30; omega)
            have r2 := f_angle a w ix (c - 2 * p) m'' hw hix (by unfold B30; omega) (by unfold B30; omega)
            have e2 : ang (plc w.marks ix) (c - 2 * p) = ang (plc w.marks ix) c - 12 * (2 * p) := by
              have := ang_shift (plc w.marks ix) c (-p)
              rw [show c + 2 * -p = c - 2 * p by omega] at this
              omega
            rw [e2] at r2
            simp [r1, r2, l1]
        · obtain ⟨rfl, j10, rfl⟩ := hI
          obtain ⟨z, μ6, e6, zz0, zz1, n6⟩ := f_pick a 61 n5.2 (by omega) (by omega)
          obtain ⟨z, rfl⟩ : ∃ y : Nat, z = y := ⟨z.toNat, by omega⟩
          obtain ⟨bs, μ7, e7, hbs, n7⟩ := f_look a n6.2 (show z ≤ 60 by omega) [some (.val (.frl (ns.map .int))), some (.val (.int i)), some (.obj m.length), some (.val (wD w)), some (.obj (m.length + 1)), none, j6, some (.val (.int ix)), some (.val (.dct (unfK (plc w.marks ix) 25))), some (.val (.int (2 * p))), j10, j11, j12] rfl rfl
          have jn := join_one bs (by omega) μ7
          obtain ⟨y, μ8, e8, y0, y1, n8⟩ := f_pick a 121 n7.2 (by omega) (by omega)
          obtain ⟨c, hc⟩ : ∃ c, c = y - 60 := ⟨_, rfl⟩
          have ac : absI c ≤ 60 ∧ 0 ≤ absI c := by unfold absI; split <;> omega
          have r1 := f_copy_behind a bs μ8 (by omega)
          have r2 := f_went a bs μ8
          have r3 := f_look_to a c μ8 (by omega) (by omega)
          have r4 := f_went a (toL c) μ8
          rw [went_to] at r4
          have r5 := f_refusals a E w ix μ8 hw hix
          have ln : (lkS (toL c)).length ≤ sizeLine := by rw [lk_len, toL_len]; exact le_line (by omega)
          have ln3 : absI c ≤ (sizeLine : Int) := by rw [sizeLine_eq]; omega
          have ln2 : (((absI c).toNat : Nat) : Int) = absI c := by omega
          simp [e6, rgOk_i (show -16777216 ≤ (z : Int) ∧ (z : Int) ≤ 16777216 by omega), e7, jn, -joinD_s, e8, ← hc, r1, r2, r3, r4, r5, -absD_i, absD_a, lk_len, toL_len, ln, ln2, ln3]
  · obtain ⟨j1, j2, j3, j4, j5, j6, j7, j8, j9, j10, j11, j12, rfl⟩ := hI
    have n1 : F_is_wedge a [.val (.tup [.int 1, .int 6, .tup [.tup [.int 3, .int 0], .tup [.int 3, .int 1]]])] m = .ok (.val (.bl false)) m := f_is_wedge a w1D m w1_pl
    have c1 := f_copy_behind a [true, false, true] m (by simp)
    have c2 := f_copy_behind a [false, true, false, false] m (by simp)
    have c3 := f_copy_behind a [true, true] m (by simp)
    rw [← l_e1, l_e6] at c1
    rw [← l_e2, l_e7] at c2
    rw [← l_e3, l_e8] at c3
    have k1 := f_look_to a (-2) m (by omega) (by omega)
    have k2 := f_look_to a 0 m (by omega) (by omega)
    rw [l_e4] at k1
    rw [l_e5] at k2
    have k3 := f_angle a w0 0 (-1000000000000000000000000000000) m w0_ok (by decide) (by unfold B30; omega) (by unfold B30; omega)
    have k4 : ang (plc w0.marks 0) (-1000000000000000000000000000000) = -11999999999999999999999999999997 := by decide +kernel
    rw [k4] at k3
    have nn := (Fl.lst (n := 0) (xs := [.int 3, .int (-2), .int 0]) (fun d hd => by
      simp only [List.mem_cons, List.not_mem_nil, or_false] at hd
      rcases hd with rfl | rfl | rfl <;> exact .int _))
    have nn := (fl_deep nn (show 0 + 1 ≤ 60 by omega)).neR m
    simp [n1, c1, c2, c3, nn, k1, k2, w0_D]
    simp at k3
    simp [k3]
    exact ⟨_, rfl⟩
end K01
namespace K01
open PySem PySem.Spec PyProof.Rows L2 Dl
open PySem.W (WData)
theorem all_mk {K : PySem.W.Frag} {h : Heap} {mg : Str → Option Value} {fa : Addr} {qq : Program} (X : K.In h) (G : h.Ns mainGlobals mg) (hfa : mg "law" = some (.ref fa)) (TT : TabsOf qq K h)
    {f0 : Addr} {od0 an0 : Option Addr} {sl0 : Array (Option Value)} {oc0 kV0 dc0 pm0 ct0 : Value} {cd0 : Value}
    {f1 : Addr} {od1 an1 : Option Addr} {sl1 : Array (Option Value)} {oc1 kV1 dc1 pm1 ct1 : Value} {cd1 : Value}
    {f2 : Addr} {od2 an2 : Option Addr} {sl2 : Array (Option Value)} {oc2 kV2 dc2 pm2 ct2 : Value} {cd2 : Value}
    {f3 : Addr} {od3 an3 : Option Addr} {sl3 : Array (Option Value)} {oc3 kV3 dc3 pm3 ct3 : Value} {cd3 : Value}
    {f4 : Addr} {od4 an4 : Option Addr} {sl4 : Array (Option Value)} {oc4 kV4 dc4 pm4 ct4 : Value} {cd4 : Value}
    {f5 : Addr} {od5 an5 : Option Addr} {sl5 : Array (Option Value)} {oc5 kV5 dc5 pm5 ct5 : Value} {cd5 : Value}
    {f6 : Addr} {od6 an6 : Option Addr} {sl6 : Array (Option Value)} {oc6 kV6 dc6 pm6 ct6 : Value} {cd6 : Value}
    {f7 : Addr} {od7 an7 : Option Addr} {sl7 : Array (Option Value)} {oc7 kV7 dc7 pm7 ct7 : Value} {cd7 : Value}
    {f8 : Addr} {od8 an8 : Option Addr} {sl8 : Array (Option Value)} {oc8 kV8 dc8 pm8 ct8 : Value} {cd8 : Value}
    {f9 : Addr} {od9 an9 : Option Addr} {sl9 : Array (Option Value)} {oc9 kV9 dc9 pm9 ct9 : Value} {cd9 : Value}
    {f10 : Addr} {od10 an10 : Option Addr} {sl10 : Array (Option Value)} {oc10 kV10 dc10 pm10 ct10 : Value} {cd10 : Value}
    {f11 : Addr} {od11 an11 : Option Addr} {sl11 : Array (Option Value)} {oc11 kV11 dc11 pm11 ct11 : Value} {cd11 : Value}
    {f12 : Addr} {od12 an12 : Option Addr} {sl12 : Array (Option Value)} {oc12 kV12 dc12 pm12 ct12 : Value} {cd12 : Value}
    {f13 : Addr} {od13 an13 : Option Addr} {sl13 : Array (Option Value)} {oc13 kV13 dc13 pm13 ct13 : Value} {cd13 : Value}
    {f14 : Addr} {od14 an14 : Option Addr} {sl14 : Array (Option Value)} {oc14 kV14 dc14 pm14 ct14 : Value} {cd14 : Value}
    {f15 : Addr} {od15 an15 : Option Addr} {sl15 : Array (Option Value)} {oc15 kV15 dc15 pm15 ct15 : Value} {cd15 : Value}
    {f16 : Addr} {od16 an16 : Option Addr} {sl16 : Array (Option Value)} {oc16 kV16 dc16 pm16 ct16 : Value} {cd16 : Value}
    {f17 : Addr} {od17 an17 : Option Addr} {sl17 : Array (Option Value)} {oc17 kV17 dc17 pm17 ct17 : Value} {cd17 : Value}
    {f18 : Addr} {od18 an18 : Option Addr} {sl18 : Array (Option Value)} {oc18 kV18 dc18 pm18 ct18 : Value} {cd18 : Value}
    {f19 : Addr} {od19 an19 : Option Addr} {sl19 : Array (Option Value)} {oc19 kV19 dc19 pm19 ct19 : Value} {cd19 : Value}
    {f20 : Addr} {od20 an20 : Option Addr} {sl20 : Array (Option Value)} {oc20 kV20 dc20 pm20 ct20 : Value} {cd20 : Value}
    {f21 : Addr} {od21 an21 : Option Addr} {sl21 : Array (Option Value)} {oc21 kV21 dc21 pm21 ct21 : Value} {cd21 : Value}
    {f22 : Addr} {od22 an22 : Option Addr} {sl22 : Array (Option Value)} {oc22 kV22 dc22 pm22 ct22 : Value} {cd22 : Value}
    {f23 : Addr} {od23 an23 : Option Addr} {sl23 : Array (Option Value)} {oc23 kV23 dc23 pm23 ct23 : Value} {cd23 : Value}
    {f24 : Addr} {od24 an24 : Option Addr} {sl24 : Array (Option Value)} {oc24 kV24 dc24 pm24 ct24 : Value} {cd24 : Value}
    {f25 : Addr} {od25 an25 : Option Addr} {sl25 : Array (Option Value)} {oc25 kV25 dc25 pm25 ct25 : Value} {cd25 : Value}
    {f26 : Addr} {od26 an26 : Option Addr} {sl26 : Array (Option Value)} {oc26 kV26 dc26 pm26 ct26 : Value} {cd26 : Value}
    {f27 : Addr} {od27 an27 : Option Addr} {sl27 : Array (Option Value)} {oc27 kV27 dc27 pm27 ct27 : Value} {tc27 tp27 : Addr} {to27 : Value} {td27 : Option Addr} {tv27 : Array Value} {ts27 : Array (Option Value)}
    {f28 : Addr} {od28 an28 : Option Addr} {sl28 : Array (Option Value)} {oc28 kV28 dc28 pm28 ct28 : Value} {tc28 tp28 : Addr} {to28 : Value} {td28 : Option Addr} {tv28 : Array Value} {ts28 : Array (Option Value)}
    {f29 : Addr} {od29 an29 : Option Addr} {sl29 : Array (Option Value)} {oc29 kV29 dc29 pm29 ct29 : Value} {cd29 : Value}
    {f30 : Addr} {od30 an30 : Option Addr} {sl30 : Array (Option Value)} {oc30 kV30 dc30 pm30 ct30 : Value} {cd30 : Value}
    {e0 : Addr}
    {e1 : Addr}
    {e2 : Addr}
    {e3 : Addr}
    {e4 : Addr}
    {e5 : Addr}
    {e6 : Addr}
    {e7 : Addr}
    {e8 : Addr}
    {e9 : Addr}
    {e10 : Addr}
    {e11 : Addr}
    {e12 : Addr}
    {tk0 : Tok}
    {tk1 : Tok}
    {tk2 : Tok}
    {tk4 : Tok}
    {tk5 : Tok}
    (a0 : PySem.W.nsIn K mainGlobals "is_within" = some (some (.ref f0))) (l0 : K.lookup f0 = some ⟨oc0, od0, .func (PySem.W.fnOf "is_within" "is_within" (defArgs s_is_within) (defBody s_is_within) (defScope s_is_within) .none kV0 dc0 pm0 an0 cd0 ct0), sl0⟩) (c0 : PySem.W.codeIn K cd0 "is_within" = true) (k0 : PySem.W.keepIn K (.ref f0) = true)
    (a1 : PySem.W.nsIn K mainGlobals "is_mark" = some (some (.ref f1))) (l1 : K.lookup f1 = some ⟨oc1, od1, .func (PySem.W.fnOf "is_mark" "is_mark" (defArgs s_is_mark) (defBody s_is_mark) (defScope s_is_mark) .none kV1 dc1 pm1 an1 cd1 ct1), sl1⟩) (c1 : PySem.W.codeIn K cd1 "is_mark" = true) (k1 : PySem.W.keepIn K (.ref f1) = true)
    (a2 : PySem.W.nsIn K mainGlobals "is_right_wedge" = some (some (.ref f2))) (l2 : K.lookup f2 = some ⟨oc2, od2, .func (PySem.W.fnOf "is_right_wedge" "is_right_wedge" (defArgs s_is_right_wedge) (defBody s_is_right_wedge) (defScope s_is_right_wedge) .none kV2 dc2 pm2 an2 cd2 ct2), sl2⟩) (c2 : PySem.W.codeIn K cd2 "is_right_wedge" = true) (k2 : PySem.W.keepIn K (.ref f2) = true)
    (a3 : PySem.W.nsIn K mainGlobals "need_wedge" = some (some (.ref f3))) (l3 : K.lookup f3 = some ⟨oc3, od3, .func (PySem.W.fnOf "need_wedge" "need_wedge" (defArgs s_need_wedge) (defBody s_need_wedge) (defScope s_need_wedge) .none kV3 dc3 pm3 an3 cd3 ct3), sl3⟩) (c3 : PySem.W.codeIn K cd3 "need_wedge" = true) (k3 : PySem.W.keepIn K (.ref f3) = true)
    (a4 : PySem.W.nsIn K mainGlobals "need_index" = some (some (.ref f4))) (l4 : K.lookup f4 = some ⟨oc4, od4, .func (PySem.W.fnOf "need_index" "need_index" (defArgs s_need_index) (defBody s_need_index) (defScope s_need_index) .none kV4 dc4 pm4 an4 cd4 ct4), sl4⟩) (c4 : PySem.W.codeIn K cd4 "need_index" = true) (k4 : PySem.W.keepIn K (.ref f4) = true)
    (a5 : PySem.W.nsIn K mainGlobals "need_copy" = some (some (.ref f5))) (l5 : K.lookup f5 = some ⟨oc5, od5, .func (PySem.W.fnOf "need_copy" "need_copy" (defArgs s_need_copy) (defBody s_need_copy) (defScope s_need_copy) .none kV5 dc5 pm5 an5 cd5 ct5), sl5⟩) (c5 : PySem.W.codeIn K cd5 "need_copy" = true) (k5 : PySem.W.keepIn K (.ref f5) = true)
    (a6 : PySem.W.nsIn K mainGlobals "angle_of" = some (some (.ref f6))) (l6 : K.lookup f6 = some ⟨oc6, od6, .func (PySem.W.fnOf "angle_of" "angle_of" (defArgs s_angle_of) (defBody s_angle_of) (defScope s_angle_of) .none kV6 dc6 pm6 an6 cd6 ct6), sl6⟩) (c6 : PySem.W.codeIn K cd6 "angle_of" = true) (k6 : PySem.W.keepIn K (.ref f6) = true)
    (a7 : PySem.W.nsIn K mainGlobals "angle" = some (some (.ref f7))) (l7 : K.lookup f7 = some ⟨oc7, od7, .func (PySem.W.fnOf "angle" "angle" (defArgs s_angle) (defBody s_angle) (defScope s_angle) .none kV7 dc7 pm7 an7 cd7 ct7), sl7⟩) (c7 : PySem.W.codeIn K cd7 "angle" = true) (k7 : PySem.W.keepIn K (.ref f7) = true)
    (a8 : PySem.W.nsIn K mainGlobals "need_look" = some (some (.ref f8))) (l8 : K.lookup f8 = some ⟨oc8, od8, .func (PySem.W.fnOf "need_look" "need_look" (defArgs s_need_look) (defBody s_need_look) (defScope s_need_look) .none kV8 dc8 pm8 an8 cd8 ct8), sl8⟩) (c8 : PySem.W.codeIn K cd8 "need_look" = true) (k8 : PySem.W.keepIn K (.ref f8) = true)
    (a9 : PySem.W.nsIn K mainGlobals "copy_behind" = some (some (.ref f9))) (l9 : K.lookup f9 = some ⟨oc9, od9, .func (PySem.W.fnOf "copy_behind" "copy_behind" (defArgs s_copy_behind) (defBody s_copy_behind) (defScope s_copy_behind) .none kV9 dc9 pm9 an9 cd9 ct9), sl9⟩) (c9 : PySem.W.codeIn K cd9 "copy_behind" = true) (k9 : PySem.W.keepIn K (.ref f9) = true)
    (a10 : PySem.W.nsIn K mainGlobals "look_to" = some (some (.ref f10))) (l10 : K.lookup f10 = some ⟨oc10, od10, .func (PySem.W.fnOf "look_to" "look_to" (defArgs s_look_to) (defBody s_look_to) (defScope s_look_to) .none kV10 dc10 pm10 an10 cd10 ct10), sl10⟩) (c10 : PySem.W.codeIn K cd10 "look_to" = true) (k10 : PySem.W.keepIn K (.ref f10) = true)
    (a11 : PySem.W.nsIn K mainGlobals "is_wedge" = some (some (.ref f11))) (l11 : K.lookup f11 = some ⟨oc11, od11, .func (PySem.W.fnOf "is_wedge" "is_wedge" (defArgs s_is_wedge) (defBody s_is_wedge) (defScope s_is_wedge) .none kV11 dc11 pm11 an11 cd11 ct11), sl11⟩) (c11 : PySem.W.codeIn K cd11 "is_wedge" = true) (k11 : PySem.W.keepIn K (.ref f11) = true)
    (a12 : PySem.W.nsIn K mainGlobals "_law_source" = some (some (.ref f12))) (l12 : K.lookup f12 = some ⟨oc12, od12, .func (PySem.W.fnOf "_law_source" "_law_source" (defArgs s__law_source) (defBody s__law_source) (defScope s__law_source) .none kV12 dc12 pm12 an12 cd12 ct12), sl12⟩) (c12 : PySem.W.codeIn K cd12 "_law_source" = true) (k12 : PySem.W.keepIn K (.ref f12) = true)
    (a13 : PySem.W.nsIn K mainGlobals "_law_pick" = some (some (.ref f13))) (l13 : K.lookup f13 = some ⟨oc13, od13, .func (PySem.W.fnOf "_law_pick" "_law_pick" (defArgs s__law_pick) (defBody s__law_pick) (defScope s__law_pick) .none kV13 dc13 pm13 an13 cd13 ct13), sl13⟩) (c13 : PySem.W.codeIn K cd13 "_law_pick" = true) (k13 : PySem.W.keepIn K (.ref f13) = true)
    (a14 : PySem.W.nsIn K mainGlobals "_law_chosen" = some (some (.ref f14))) (l14 : K.lookup f14 = some ⟨oc14, od14, .func (PySem.W.fnOf "_law_chosen" "_law_chosen" (defArgs s__law_chosen) (defBody s__law_chosen) (defScope s__law_chosen) .none kV14 dc14 pm14 an14 cd14 ct14), sl14⟩) (c14 : PySem.W.codeIn K cd14 "_law_chosen" = true) (k14 : PySem.W.keepIn K (.ref f14) = true)
    (a15 : PySem.W.nsIn K mainGlobals "_law_is_bool" = some (some (.ref f15))) (l15 : K.lookup f15 = some ⟨oc15, od15, .func (PySem.W.fnOf "_law_is_bool" "_law_is_bool" (defArgs s__law_is_bool) (defBody s__law_is_bool) (defScope s__law_is_bool) .none kV15 dc15 pm15 an15 cd15 ct15), sl15⟩) (c15 : PySem.W.codeIn K cd15 "_law_is_bool" = true) (k15 : PySem.W.keepIn K (.ref f15) = true)
    (a16 : PySem.W.nsIn K mainGlobals "_law_any_value" = some (some (.ref f16))) (l16 : K.lookup f16 = some ⟨oc16, od16, .func (PySem.W.fnOf "_law_any_value" "_law_any_value" (defArgs s__law_any_value) (defBody s__law_any_value) (defScope s__law_any_value) .none kV16 dc16 pm16 an16 cd16 ct16), sl16⟩) (c16 : PySem.W.codeIn K cd16 "_law_any_value" = true) (k16 : PySem.W.keepIn K (.ref f16) = true)
    (a17 : PySem.W.nsIn K mainGlobals "_law_variant" = some (some (.ref f17))) (l17 : K.lookup f17 = some ⟨oc17, od17, .func (PySem.W.fnOf "_law_variant" "_law_variant" (defArgs s__law_variant) (defBody s__law_variant) (defScope s__law_variant) .none kV17 dc17 pm17 an17 cd17 ct17), sl17⟩) (c17 : PySem.W.codeIn K cd17 "_law_variant" = true) (k17 : PySem.W.keepIn K (.ref f17) = true)
    (a18 : PySem.W.nsIn K mainGlobals "_law_drawn_wedge" = some (some (.ref f18))) (l18 : K.lookup f18 = some ⟨oc18, od18, .func (PySem.W.fnOf "_law_drawn_wedge" "_law_drawn_wedge" (defArgs s__law_drawn_wedge) (defBody s__law_drawn_wedge) (defScope s__law_drawn_wedge) .none kV18 dc18 pm18 an18 cd18 ct18), sl18⟩) (c18 : PySem.W.codeIn K cd18 "_law_drawn_wedge" = true) (k18 : PySem.W.keepIn K (.ref f18) = true)
    (a19 : PySem.W.nsIn K mainGlobals "_law_unfolded" = some (some (.ref f19))) (l19 : K.lookup f19 = some ⟨oc19, od19, .func (PySem.W.fnOf "_law_unfolded" "_law_unfolded" (defArgs s__law_unfolded) (defBody s__law_unfolded) (defScope s__law_unfolded) .none kV19 dc19 pm19 an19 cd19 ct19), sl19⟩) (c19 : PySem.W.codeIn K cd19 "_law_unfolded" = true) (k19 : PySem.W.keepIn K (.ref f19) = true)
    (a20 : PySem.W.nsIn K mainGlobals "_law_wide" = some (some (.ref f20))) (l20 : K.lookup f20 = some ⟨oc20, od20, .func (PySem.W.fnOf "_law_wide" "_law_wide" (defArgs s__law_wide) (defBody s__law_wide) (defScope s__law_wide) .none kV20 dc20 pm20 an20 cd20 ct20), sl20⟩) (c20 : PySem.W.codeIn K cd20 "_law_wide" = true) (k20 : PySem.W.keepIn K (.ref f20) = true)
    (a21 : PySem.W.nsIn K mainGlobals "_law_whole" = some (some (.ref f21))) (l21 : K.lookup f21 = some ⟨oc21, od21, .func (PySem.W.fnOf "_law_whole" "_law_whole" (defArgs s__law_whole) (defBody s__law_whole) (defScope s__law_whole) .none kV21 dc21 pm21 an21 cd21 ct21), sl21⟩) (c21 : PySem.W.codeIn K cd21 "_law_whole" = true) (k21 : PySem.W.keepIn K (.ref f21) = true)
    (a22 : PySem.W.nsIn K mainGlobals "_law_good_mark" = some (some (.ref f22))) (l22 : K.lookup f22 = some ⟨oc22, od22, .func (PySem.W.fnOf "_law_good_mark" "_law_good_mark" (defArgs s__law_good_mark) (defBody s__law_good_mark) (defScope s__law_good_mark) .none kV22 dc22 pm22 an22 cd22 ct22), sl22⟩) (c22 : PySem.W.codeIn K cd22 "_law_good_mark" = true) (k22 : PySem.W.keepIn K (.ref f22) = true)
    (a23 : PySem.W.nsIn K mainGlobals "_law_good" = some (some (.ref f23))) (l23 : K.lookup f23 = some ⟨oc23, od23, .func (PySem.W.fnOf "_law_good" "_law_good" (defArgs s__law_good) (defBody s__law_good) (defScope s__law_good) .none kV23 dc23 pm23 an23 cd23 ct23), sl23⟩) (c23 : PySem.W.codeIn K cd23 "_law_good" = true) (k23 : PySem.W.keepIn K (.ref f23) = true)
    (a24 : PySem.W.nsIn K mainGlobals "_law_went" = some (some (.ref f24))) (l24 : K.lookup f24 = some ⟨oc24, od24, .func (PySem.W.fnOf "_law_went" "_law_went" (defArgs s__law_went) (defBody s__law_went) (defScope s__law_went) .none kV24 dc24 pm24 an24 cd24 ct24), sl24⟩) (c24 : PySem.W.codeIn K cd24 "_law_went" = true) (k24 : PySem.W.keepIn K (.ref f24) = true)
    (a25 : PySem.W.nsIn K mainGlobals "_law_error" = some (some (.ref f25))) (l25 : K.lookup f25 = some ⟨oc25, od25, .func (PySem.W.fnOf "_law_error" "_law_error" (defArgs s__law_error) (defBody s__law_error) (defScope s__law_error) .none kV25 dc25 pm25 an25 cd25 ct25), sl25⟩) (c25 : PySem.W.codeIn K cd25 "_law_error" = true) (k25 : PySem.W.keepIn K (.ref f25) = true)
    (a26 : PySem.W.nsIn K mainGlobals "_law_refused" = some (some (.ref f26))) (l26 : K.lookup f26 = some ⟨oc26, od26, .func (PySem.W.fnOf "_law_refused" "_law_refused" (defArgs s__law_refused) (defBody s__law_refused) (defScope s__law_refused) .none kV26 dc26 pm26 an26 cd26 ct26), sl26⟩) (c26 : PySem.W.codeIn K cd26 "_law_refused" = true) (k26 : PySem.W.keepIn K (.ref f26) = true)
    (a27 : PySem.W.nsIn K mainGlobals "_law_by_one" = some (some (.ref f27))) (l27 : K.lookup f27 = some ⟨oc27, od27, .func (PySem.W.fnOf "_law_by_one" "_law_by_one" (defArgs s__law_by_one) (defBody s__law_by_one) (defScope s__law_by_one) .none kV27 dc27 pm27 an27 (.ref tc27) ct27), sl27⟩) (c27 : PySem.W.codeIn K (.ref tc27) "_law_by_one" = true) (k27 : PySem.W.keepIn K (.ref f27) = true)
    (tl27 : K.lookup tc27 = some ⟨to27, td27, .fields tv27, ts27⟩) (th27 : tv27[11]? = some (.ref tp27)) (tr27 : ((recsOf qq).find? (fun e => e.name == ("_law_by_one" : Str))).isSome = true)
    (a28 : PySem.W.nsIn K mainGlobals "_law_by_three" = some (some (.ref f28))) (l28 : K.lookup f28 = some ⟨oc28, od28, .func (PySem.W.fnOf "_law_by_three" "_law_by_three" (defArgs s__law_by_three) (defBody s__law_by_three) (defScope s__law_by_three) .none kV28 dc28 pm28 an28 (.ref tc28) ct28), sl28⟩) (c28 : PySem.W.codeIn K (.ref tc28) "_law_by_three" = true) (k28 : PySem.W.keepIn K (.ref f28) = true)
    (tl28 : K.lookup tc28 = some ⟨to28, td28, .fields tv28, ts28⟩) (th28 : tv28[11]? = some (.ref tp28)) (tr28 : ((recsOf qq).find? (fun e => e.name == ("_law_by_three" : Str))).isSome = true)
    (a29 : PySem.W.nsIn K mainGlobals "_law_refusals" = some (some (.ref f29))) (l29 : K.lookup f29 = some ⟨oc29, od29, .func (PySem.W.fnOf "_law_refusals" "_law_refusals" (defArgs s__law_refusals) (defBody s__law_refusals) (defScope s__law_refusals) .none kV29 dc29 pm29 an29 cd29 ct29), sl29⟩) (c29 : PySem.W.codeIn K cd29 "_law_refusals" = true) (k29 : PySem.W.keepIn K (.ref f29) = true)
    (a30 : PySem.W.nsIn K mainGlobals "law" = some (some (.ref f30))) (l30 : K.lookup f30 = some ⟨oc30, od30, .func (PySem.W.fnOf "law" "law" (defArgs s_law) (defBody s_law) (defScope s_law) .none kV30 dc30 pm30 an30 cd30 ct30), sl30⟩) (c30 : PySem.W.codeIn K cd30 "law" = true) (k30 : PySem.W.keepIn K (.ref f30) = true)
    (xa0 : PySem.W.nsIn K mainGlobals "InvalidColour" = some (some (.ref e0)))
    (xa1 : PySem.W.nsIn K mainGlobals "InvalidCopy" = some (some (.ref e1)))
    (xa2 : PySem.W.nsIn K mainGlobals "InvalidDeed" = some (some (.ref e2)))
    (xa3 : PySem.W.nsIn K mainGlobals "InvalidForm" = some (some (.ref e3)))
    (xa4 : PySem.W.nsIn K mainGlobals "InvalidIndex" = some (some (.ref e4)))
    (xa5 : PySem.W.nsIn K mainGlobals "InvalidLook" = some (some (.ref e5)))
    (xa6 : PySem.W.nsIn K mainGlobals "InvalidNumber" = some (some (.ref e6)))
    (xa7 : PySem.W.nsIn K mainGlobals "InvalidSeen" = some (some (.ref e7)))
    (xa8 : PySem.W.nsIn K mainGlobals "InvalidText" = some (some (.ref e8)))
    (xa9 : PySem.W.nsIn K mainGlobals "InvalidWedge" = some (some (.ref e9)))
    (xa10 : PySem.W.nsIn K mainGlobals "NothingToUndo" = some (some (.ref e10)))
    (xa11 : PySem.W.nsIn K mainGlobals "TooMany" = some (some (.ref e11)))
    (xa12 : PySem.W.nsIn K mainGlobals "WedgeError" = some (some (.ref e12)))
    (xk1 : PySem.W.keepIn K (.ref e1) = true) (xq1 : PySem.W.excIn K e1 [.type "ValueError", .type "Exception", .type "BaseException", .type "object"] "ValueError.__new__" = true) (xs1 : PySem.W.subIn K (.ref e1) (.type "BaseException") = some true) (xt1 : PySem.W.typeIn K (.ref e1) = some (.type "type"))
    (xk4 : PySem.W.keepIn K (.ref e4) = true) (xq4 : PySem.W.excIn K e4 [.type "ValueError", .type "Exception", .type "BaseException", .type "object"] "ValueError.__new__" = true) (xs4 : PySem.W.subIn K (.ref e4) (.type "BaseException") = some true) (xt4 : PySem.W.typeIn K (.ref e4) = some (.type "type"))
    (xk5 : PySem.W.keepIn K (.ref e5) = true) (xq5 : PySem.W.excIn K e5 [.type "ValueError", .type "Exception", .type "BaseException", .type "object"] "ValueError.__new__" = true) (xs5 : PySem.W.subIn K (.ref e5) (.type "BaseException") = some true) (xt5 : PySem.W.typeIn K (.ref e5) = some (.type "type"))
    (xk9 : PySem.W.keepIn K (.ref e9) = true) (xq9 : PySem.W.excIn K e9 [.type "ValueError", .type "Exception", .type "BaseException", .type "object"] "ValueError.__new__" = true) (xs9 : PySem.W.subIn K (.ref e9) (.type "BaseException") = some true) (xt9 : PySem.W.typeIn K (.ref e9) = some (.type "type"))
    (xt0 : PySem.W.typeIn K (.ref e0) = some (.type "type"))
    (gd0 : PySem.W.hasDictIn K e0 = true)
    (gd1 : PySem.W.hasDictIn K e1 = true)
    (xt2 : PySem.W.typeIn K (.ref e2) = some (.type "type"))
    (gd2 : PySem.W.hasDictIn K e2 = true)
    (xt3 : PySem.W.typeIn K (.ref e3) = some (.type "type"))
    (gd3 : PySem.W.hasDictIn K e3 = true)
    (gd4 : PySem.W.hasDictIn K e4 = true)
    (gd5 : PySem.W.hasDictIn K e5 = true)
    (xt6 : PySem.W.typeIn K (.ref e6) = some (.type "type"))
    (gd6 : PySem.W.hasDictIn K e6 = true)
    (xt7 : PySem.W.typeIn K (.ref e7) = some (.type "type"))
    (gd7 : PySem.W.hasDictIn K e7 = true)
    (xt8 : PySem.W.typeIn K (.ref e8) = some (.type "type"))
    (gd8 : PySem.W.hasDictIn K e8 = true)
    (gd9 : PySem.W.hasDictIn K e9 = true)
    (xt10 : PySem.W.typeIn K (.ref e10) = some (.type "type"))
    (gd10 : PySem.W.hasDictIn K e10 = true)
    (xt11 : PySem.W.typeIn K (.ref e11) = some (.type "type"))
    (gd11 : PySem.W.hasDictIn K e11 = true)
    (xt12 : PySem.W.typeIn K (.ref e12) = some (.type "type"))
    (gd12 : PySem.W.hasDictIn K e12 = true)
    (xs12 : PySem.W.subIn K (.ref e12) (.type "BaseException") = some true)
    (gg1 : PySem.W.findIn K (.ref e1) "__getattribute__" = some (some (.builtin "BaseException.__getattribute__"))) (gk1 : PySem.W.findIn K (.ref e1) "__getattr__" = some none) (ga1 : PySem.W.findIn K (.ref e1) "__class__" = some (some (.builtin "object.__class__"))) (gm1 : PySem.W.mroIn K e1 (.type "object") = some true) (gs1_W : PySem.W.subIn K (.ref e1) (.ref e12) = some true) (gs1_S : PySem.W.subIn K (.ref e1) (.ref e1) = some true)
    (gs1_wedge : PySem.W.subIn K (.ref e1) (.ref e9) = some false)
    (gs1_number : PySem.W.subIn K (.ref e1) (.ref e6) = some false)
    (gs1_index : PySem.W.subIn K (.ref e1) (.ref e4) = some false)
    (gs1_copy : PySem.W.subIn K (.ref e1) (.ref e1) = some true)
    (gs1_look : PySem.W.subIn K (.ref e1) (.ref e5) = some false)
    (gs1_colour : PySem.W.subIn K (.ref e1) (.ref e0) = some false)
    (gs1_form : PySem.W.subIn K (.ref e1) (.ref e3) = some false)
    (gs1_seen : PySem.W.subIn K (.ref e1) (.ref e7) = some false)
    (gs1_deed : PySem.W.subIn K (.ref e1) (.ref e2) = some false)
    (gs1_text : PySem.W.subIn K (.ref e1) (.ref e8) = some false)
    (gs1_undo : PySem.W.subIn K (.ref e1) (.ref e10) = some false)
    (gs1_many : PySem.W.subIn K (.ref e1) (.ref e11) = some false)
    (gg4 : PySem.W.findIn K (.ref e4) "__getattribute__" = some (some (.builtin "BaseException.__getattribute__"))) (gk4 : PySem.W.findIn K (.ref e4) "__getattr__" = some none) (ga4 : PySem.W.findIn K (.ref e4) "__class__" = some (some (.builtin "object.__class__"))) (gm4 : PySem.W.mroIn K e4 (.type "object") = some true) (gs4_W : PySem.W.subIn K (.ref e4) (.ref e12) = some true) (gs4_S : PySem.W.subIn K (.ref e4) (.ref e4) = some true)
    (gs4_wedge : PySem.W.subIn K (.ref e4) (.ref e9) = some false)
    (gs4_number : PySem.W.subIn K (.ref e4) (.ref e6) = some false)
    (gs4_index : PySem.W.subIn K (.ref e4) (.ref e4) = some true)
    (gs4_copy : PySem.W.subIn K (.ref e4) (.ref e1) = some false)
    (gs4_look : PySem.W.subIn K (.ref e4) (.ref e5) = some false)
    (gs4_colour : PySem.W.subIn K (.ref e4) (.ref e0) = some false)
    (gs4_form : PySem.W.subIn K (.ref e4) (.ref e3) = some false)
    (gs4_seen : PySem.W.subIn K (.ref e4) (.ref e7) = some false)
    (gs4_deed : PySem.W.subIn K (.ref e4) (.ref e2) = some false)
    (gs4_text : PySem.W.subIn K (.ref e4) (.ref e8) = some false)
    (gs4_undo : PySem.W.subIn K (.ref e4) (.ref e10) = some false)
    (gs4_many : PySem.W.subIn K (.ref e4) (.ref e11) = some false)
    (gg5 : PySem.W.findIn K (.ref e5) "__getattribute__" = some (some (.builtin "BaseException.__getattribute__"))) (gk5 : PySem.W.findIn K (.ref e5) "__getattr__" = some none) (ga5 : PySem.W.findIn K (.ref e5) "__class__" = some (some (.builtin "object.__class__"))) (gm5 : PySem.W.mroIn K e5 (.type "object") = some true) (gs5_W : PySem.W.subIn K (.ref e5) (.ref e12) = some true) (gs5_S : PySem.W.subIn K (.ref e5) (.ref e5) = some true)
    (gs5_wedge : PySem.W.subIn K (.ref e5) (.ref e9) = some false)
    (gs5_number : PySem.W.subIn K (.ref e5) (.ref e6) = some false)
    (gs5_index : PySem.W.subIn K (.ref e5) (.ref e4) = some false)
    (gs5_copy : PySem.W.subIn K (.ref e5) (.ref e1) = some false)
    (gs5_look : PySem.W.subIn K (.ref e5) (.ref e5) = some true)
    (gs5_colour : PySem.W.subIn K (.ref e5) (.ref e0) = some false)
    (gs5_form : PySem.W.subIn K (.ref e5) (.ref e3) = some false)
    (gs5_seen : PySem.W.subIn K (.ref e5) (.ref e7) = some false)
    (gs5_deed : PySem.W.subIn K (.ref e5) (.ref e2) = some false)
    (gs5_text : PySem.W.subIn K (.ref e5) (.ref e8) = some false)
    (gs5_undo : PySem.W.subIn K (.ref e5) (.ref e10) = some false)
    (gs5_many : PySem.W.subIn K (.ref e5) (.ref e11) = some false)
    (gg9 : PySem.W.findIn K (.ref e9) "__getattribute__" = some (some (.builtin "BaseException.__getattribute__"))) (gk9 : PySem.W.findIn K (.ref e9) "__getattr__" = some none) (ga9 : PySem.W.findIn K (.ref e9) "__class__" = some (some (.builtin "object.__class__"))) (gm9 : PySem.W.mroIn K e9 (.type "object") = some true) (gs9_W : PySem.W.subIn K (.ref e9) (.ref e12) = some true) (gs9_S : PySem.W.subIn K (.ref e9) (.ref e9) = some true)
    (gs9_wedge : PySem.W.subIn K (.ref e9) (.ref e9) = some true)
    (gs9_number : PySem.W.subIn K (.ref e9) (.ref e6) = some false)
    (gs9_index : PySem.W.subIn K (.ref e9) (.ref e4) = some false)
    (gs9_copy : PySem.W.subIn K (.ref e9) (.ref e1) = some false)
    (gs9_look : PySem.W.subIn K (.ref e9) (.ref e5) = some false)
    (gs9_colour : PySem.W.subIn K (.ref e9) (.ref e0) = some false)
    (gs9_form : PySem.W.subIn K (.ref e9) (.ref e3) = some false)
    (gs9_seen : PySem.W.subIn K (.ref e9) (.ref e7) = some false)
    (gs9_deed : PySem.W.subIn K (.ref e9) (.ref e2) = some false)
    (gs9_text : PySem.W.subIn K (.ref e9) (.ref e8) = some false)
    (gs9_undo : PySem.W.subIn K (.ref e9) (.ref e10) = some false)
    (gs9_many : PySem.W.subIn K (.ref e9) (.ref e11) = some false)
    (gn : PySem.W.specialIn K (.builtin "object.__class__") "__get__" = some (some (.builtin "getset_descriptor.__get__"))) (gt : PySem.W.takesIn K (.builtin "object.__class__") = some true)
    (co0 : PySem.W.nsIn K mainGlobals "MOST_COLOUR" = some (some (.int (2) tk0)))
    (co1 : PySem.W.nsIn K mainGlobals "MOST_LOOK" = some (some (.int (60) tk1)))
    (co2 : PySem.W.nsIn K mainGlobals "MOST_MARKS" = some (some (.int (5) tk2)))
    (co3 : ∃ t, mg "MOST_NUMBER" = some (.int (1000000000000000000000000000000) t))
    (co4 : PySem.W.nsIn K mainGlobals "MOST_PART" = some (some (.int (6) tk4)))
    (co5 : PySem.W.nsIn K mainGlobals "SIDE" = some (some (.int (12) tk5)))
    (z0 : PySem.W.nsIn K mainGlobals "abs" = some none)
    (z1 : PySem.W.nsIn K mainGlobals "all" = some none)
    (z2 : PySem.W.nsIn K mainGlobals "bool" = some none)
    (z3 : PySem.W.nsIn K mainGlobals "enumerate" = some none)
    (z4 : PySem.W.nsIn K mainGlobals "int" = some none)
    (z5 : PySem.W.nsIn K mainGlobals "isinstance" = some none)
    (z6 : PySem.W.nsIn K mainGlobals "len" = some none)
    (z7 : PySem.W.nsIn K mainGlobals "list" = some none)
    (z8 : PySem.W.nsIn K mainGlobals "max" = some none)
    (z9 : PySem.W.nsIn K mainGlobals "min" = some none)
    (z10 : PySem.W.nsIn K mainGlobals "range" = some none)
    (z11 : PySem.W.nsIn K mainGlobals "set" = some none)
    (z12 : PySem.W.nsIn K mainGlobals "sorted" = some none)
    (z13 : PySem.W.nsIn K mainGlobals "str" = some none)
    (z14 : PySem.W.nsIn K mainGlobals "tuple" = some none)
    (nt : PySem.W.noTabs K = true) (nd : [tp27, tp28].Nodup) :
    ∃ a : Ad, a.law = fa ∧ Tx K mg a ∧ PySem.W.noTabs K = true ∧ ∀ p ∈ cs a, PySem.W.CodeHd h p.1 p.2 ∧ h.get? p.2 = some { cls := .none, data := .fields #[] } := by
  have e := hfa.symm.trans (PySem.W.mg_of X G a30)
  cases e
  let wsv : List (Str × Addr) := [("wedge", e9), ("number", e6), ("index", e4), ("copy", e1), ("look", e5), ("colour", e0), ("form", e3), ("seen", e7), ("deed", e2), ("text", e8), ("undo", e10), ("many", e11)]
  have gw1_wedge := kit_sub gd9 xt9 gs1_wedge gs1_S
  have gw1_number := kit_sub gd6 xt6 gs1_number gs1_S
  have gw1_index := kit_sub gd4 xt4 gs1_index gs1_S
  have gw1_copy := kit_sub gd1 xt1 gs1_copy gs1_S
  have gw1_look := kit_sub gd5 xt5 gs1_look gs1_S
  have gw1_colour := kit_sub gd0 xt0 gs1_colour gs1_S
  have gw1_form := kit_sub gd3 xt3 gs1_form gs1_S
  have gw1_seen := kit_sub gd7 xt7 gs1_seen gs1_S
  have gw1_deed := kit_sub gd2 xt2 gs1_deed gs1_S
  have gw1_text := kit_sub gd8 xt8 gs1_text gs1_S
  have gw1_undo := kit_sub gd10 xt10 gs1_undo gs1_S
  have gw1_many := kit_sub gd11 xt11 gs1_many gs1_S
  have ge1 := PySem.W.exm_ref xs12 gd12 xt12 gs1_W
  have G1 : ErrGood K e12 wsv e1 := ⟨⟨gg1, gk1, xs1, gd1, ga1, gn, gt, gm1⟩, ge1, fun w hw => by
    simp only [wsv, List.mem_cons, List.not_mem_nil, or_false] at hw
    rcases hw with rfl | rfl | rfl | rfl | rfl | rfl | rfl | rfl | rfl | rfl | rfl | rfl
    · exact ⟨_, gw1_wedge⟩
    · exact ⟨_, gw1_number⟩
    · exact ⟨_, gw1_index⟩
    · exact ⟨_, gw1_copy⟩
    · exact ⟨_, gw1_look⟩
    · exact ⟨_, gw1_colour⟩
    · exact ⟨_, gw1_form⟩
    · exact ⟨_, gw1_seen⟩
    · exact ⟨_, gw1_deed⟩
    · exact ⟨_, gw1_text⟩
    · exact ⟨_, gw1_undo⟩
    · exact ⟨_, gw1_many⟩⟩
  have H1 : erK K e12 wsv e1 = some "copy" := erK_of G1 (by simp only [Dl.wordsOf, wsv, List.filter, gw1_wedge, gw1_number, gw1_index, gw1_copy, gw1_look, gw1_colour, gw1_form, gw1_seen, gw1_deed, gw1_text, gw1_undo, gw1_many]; rfl)
  have gw4_wedge := kit_sub gd9 xt9 gs4_wedge gs4_S
  have gw4_number := kit_sub gd6 xt6 gs4_number gs4_S
  have gw4_index := kit_sub gd4 xt4 gs4_index gs4_S
  have gw4_copy := kit_sub gd1 xt1 gs4_copy gs4_S
  have gw4_look := kit_sub gd5 xt5 gs4_look gs4_S
  have gw4_colour := kit_sub gd0 xt0 gs4_colour gs4_S
  have gw4_form := kit_sub gd3 xt3 gs4_form gs4_S
  have gw4_seen := kit_sub gd7 xt7 gs4_seen gs4_S
  have gw4_deed := kit_sub gd2 xt2 gs4_deed gs4_S
  have gw4_text := kit_sub gd8 xt8 gs4_text gs4_S
  have gw4_undo := kit_sub gd10 xt10 gs4_undo gs4_S
  have gw4_many := kit_sub gd11 xt11 gs4_many gs4_S
  have ge4 := PySem.W.exm_ref xs12 gd12 xt12 gs4_W
  have G4 : ErrGood K e12 wsv e4 := ⟨⟨gg4, gk4, xs4, gd4, ga4, gn, gt, gm4⟩, ge4, fun w hw => by
    simp only [wsv, List.mem_cons, List.not_mem_nil, or_false] at hw
    rcases hw with rfl | rfl | rfl | rfl | rfl | rfl | rfl | rfl | rfl | rfl | rfl | rfl
    · exact ⟨_, gw4_wedge⟩
    · exact ⟨_, gw4_number⟩
    · exact ⟨_, gw4_index⟩
    · exact ⟨_, gw4_copy⟩
    · exact ⟨_, gw4_look⟩
    · exact ⟨_, gw4_colour⟩
    · exact ⟨_, gw4_form⟩
    · exact ⟨_, gw4_seen⟩
    · exact ⟨_, gw4_deed⟩
    · exact ⟨_, gw4_text⟩
    · exact ⟨_, gw4_undo⟩
    · exact ⟨_, gw4_many⟩⟩
  have H4 : erK K e12 wsv e4 = some "index" := erK_of G4 (by simp only [Dl.wordsOf, wsv, List.filter, gw4_wedge, gw4_number, gw4_index, gw4_copy, gw4_look, gw4_colour, gw4_form, gw4_seen, gw4_deed, gw4_text, gw4_undo, gw4_many]; rfl)
  have gw5_wedge := kit_sub gd9 xt9 gs5_wedge gs5_S
  have gw5_number := kit_sub gd6 xt6 gs5_number gs5_S
  have gw5_index := kit_sub gd4 xt4 gs5_index gs5_S
  have gw5_copy := kit_sub gd1 xt1 gs5_copy gs5_S
  have gw5_look := kit_sub gd5 xt5 gs5_look gs5_S
  have gw5_colour := kit_sub gd0 xt0 gs5_colour gs5_S
  have gw5_form := kit_sub gd3 xt3 gs5_form gs5_S
  have gw5_seen := kit_sub gd7 xt7 gs5_seen gs5_S
  have gw5_deed := kit_sub gd2 xt2 gs5_deed gs5_S
  have gw5_text := kit_sub gd8 xt8 gs5_text gs5_S
  have gw5_undo := kit_sub gd10 xt10 gs5_undo gs5_S
  have gw5_many := kit_sub gd11 xt11 gs5_many gs5_S
  have ge5 := PySem.W.exm_ref xs12 gd12 xt12 gs5_W
  have G5 : ErrGood K e12 wsv e5 := ⟨⟨gg5, gk5, xs5, gd5, ga5, gn, gt, gm5⟩, ge5, fun w hw => by
    simp only [wsv, List.mem_cons, List.not_mem_nil, or_false] at hw
    rcases hw with rfl | rfl | rfl | rfl | rfl | rfl | rfl | rfl | rfl | rfl | rfl | rfl
    · exact ⟨_, gw5_wedge⟩
    · exact ⟨_, gw5_number⟩
    · exact ⟨_, gw5_index⟩
    · exact ⟨_, gw5_copy⟩
    · exact ⟨_, gw5_look⟩
    · exact ⟨_, gw5_colour⟩
    · exact ⟨_, gw5_form⟩
    · exact ⟨_, gw5_seen⟩
    · exact ⟨_, gw5_deed⟩
    · exact ⟨_, gw5_text⟩
    · exact ⟨_, gw5_undo⟩
    · exact ⟨_, gw5_many⟩⟩
  have H5 : erK K e12 wsv e5 = some "look" := erK_of G5 (by simp only [Dl.wordsOf, wsv, List.filter, gw5_wedge, gw5_number, gw5_index, gw5_copy, gw5_look, gw5_colour, gw5_form, gw5_seen, gw5_deed, gw5_text, gw5_undo, gw5_many]; rfl)
  have gw9_wedge := kit_sub gd9 xt9 gs9_wedge gs9_S
  have gw9_number := kit_sub gd6 xt6 gs9_number gs9_S
  have gw9_index := kit_sub gd4 xt4 gs9_index gs9_S
  have gw9_copy := kit_sub gd1 xt1 gs9_copy gs9_S
  have gw9_look := kit_sub gd5 xt5 gs9_look gs9_S
  have gw9_colour := kit_sub gd0 xt0 gs9_colour gs9_S
  have gw9_form := kit_sub gd3 xt3 gs9_form gs9_S
  have gw9_seen := kit_sub gd7 xt7 gs9_seen gs9_S
  have gw9_deed := kit_sub gd2 xt2 gs9_deed gs9_S
  have gw9_text := kit_sub gd8 xt8 gs9_text gs9_S
  have gw9_undo := kit_sub gd10 xt10 gs9_undo gs9_S
  have gw9_many := kit_sub gd11 xt11 gs9_many gs9_S
  have ge9 := PySem.W.exm_ref xs12 gd12 xt12 gs9_W
  have G9 : ErrGood K e12 wsv e9 := ⟨⟨gg9, gk9, xs9, gd9, ga9, gn, gt, gm9⟩, ge9, fun w hw => by
    simp only [wsv, List.mem_cons, List.not_mem_nil, or_false] at hw
    rcases hw with rfl | rfl | rfl | rfl | rfl | rfl | rfl | rfl | rfl | rfl | rfl | rfl
    · exact ⟨_, gw9_wedge⟩
    · exact ⟨_, gw9_number⟩
    · exact ⟨_, gw9_index⟩
    · exact ⟨_, gw9_copy⟩
    · exact ⟨_, gw9_look⟩
    · exact ⟨_, gw9_colour⟩
    · exact ⟨_, gw9_form⟩
    · exact ⟨_, gw9_seen⟩
    · exact ⟨_, gw9_deed⟩
    · exact ⟨_, gw9_text⟩
    · exact ⟨_, gw9_undo⟩
    · exact ⟨_, gw9_many⟩⟩
  have H9 : erK K e12 wsv e9 = some "wedge" := erK_of G9 (by simp only [Dl.wordsOf, wsv, List.filter, gw9_wedge, gw9_number, gw9_index, gw9_copy, gw9_look, gw9_colour, gw9_form, gw9_seen, gw9_deed, gw9_text, gw9_undo, gw9_many]; rfl)
  refine ⟨⟨f0, f1, f2, f3, f4, f5, f6, f7, f8, f9, f10, f11, f12, f13, f14, f15, f16, f17, f18, f19, f20, f21, f22, f23, f24, f25, f26, f27, f28, f29, fa, e0, e1, e2, e3, e4, e5, e6, e7, e8, e9, e10, e11, e12, tc27, tp27, tc28, tp28, erK K e12 wsv⟩, rfl, ?_, nt, ?_⟩
  · exact ⟨mkDef X G a0 l0 c0 k0 (fun _ _ _ _ _ _ us hl => match us, hl with | [_, _, _], _ => rfl),
    mkDef X G a1 l1 c1 k1 (fun _ _ _ _ _ _ us hl => match us, hl with | [_], _ => rfl),
    mkDef X G a2 l2 c2 k2 (fun _ _ _ _ _ _ us hl => match us, hl with | [_], _ => rfl),
    mkDef X G a3 l3 c3 k3 (fun _ _ _ _ _ _ us hl => match us, hl with | [_], _ => rfl),
    mkDef X G a4 l4 c4 k4 (fun _ _ _ _ _ _ us hl => match us, hl with | [_, _], _ => rfl),
    mkDef X G a5 l5 c5 k5 (fun _ _ _ _ _ _ us hl => match us, hl with | [_, _], _ => rfl),
    mkDef X G a6 l6 c6 k6 (fun _ _ _ _ _ _ us hl => match us, hl with | [_, _], _ => rfl),
    mkDef X G a7 l7 c7 k7 (fun _ _ _ _ _ _ us hl => match us, hl with | [_, _, _], _ => rfl),
    mkDef X G a8 l8 c8 k8 (fun _ _ _ _ _ _ us hl => match us, hl with | [_], _ => rfl),
    mkDef X G a9 l9 c9 k9 (fun _ _ _ _ _ _ us hl => match us, hl with | [_], _ => rfl),
    mkDef X G a10 l10 c10 k10 (fun _ _ _ _ _ _ us hl => match us, hl with | [_], _ => rfl),
    mkDef X G a11 l11 c11 k11 (fun _ _ _ _ _ _ us hl => match us, hl with | [_], _ => rfl),
    mkDef X G a12 l12 c12 k12 (fun _ _ _ _ _ _ us hl => match us, hl with | [_, _], _ => rfl),
    mkDef X G a13 l13 c13 k13 (fun _ _ _ _ _ _ us hl => match us, hl with | [_, _], _ => rfl),
    mkDef X G a14 l14 c14 k14 (fun _ _ _ _ _ _ us hl => match us, hl with | [_, _], _ => rfl),
    mkDef X G a15 l15 c15 k15 (fun _ _ _ _ _ _ us hl => match us, hl with | [_, _], _ => rfl),
    mkDef X G a16 l16 c16 k16 (fun _ _ _ _ _ _ us hl => match us, hl with | [_, _], _ => rfl),
    mkDef X G a17 l17 c17 k17 (fun _ _ _ _ _ _ us hl => match us, hl with | [_, _, _], _ => rfl),
    mkDef X G a18 l18 c18 k18 (fun _ _ _ _ _ _ us hl => match us, hl with | [_, _, _], _ => rfl),
    mkDef X G a19 l19 c19 k19 (fun _ _ _ _ _ _ us hl => match us, hl with | [_, _], _ => rfl),
    mkDef X G a20 l20 c20 k20 (fun _ _ _ _ _ _ us hl => match us, hl with | [_, _, _], _ => rfl),
    mkDef X G a21 l21 c21 k21 (fun _ _ _ _ _ _ us hl => match us, hl with | [_, _, _], _ => rfl),
    mkDef X G a22 l22 c22 k22 (fun _ _ _ _ _ _ us hl => match us, hl with | [_], _ => rfl),
    mkDef X G a23 l23 c23 k23 (fun _ _ _ _ _ _ us hl => match us, hl with | [_], _ => rfl),
    mkDef X G a24 l24 c24 k24 (fun _ _ _ _ _ _ us hl => match us, hl with | [_], _ => rfl),
    mkDef X G a25 l25 c25 k25 (fun _ _ _ _ _ _ us hl => match us, hl with | [_], _ => rfl),
    mkDef X G a26 l26 c26 k26 (fun _ _ _ _ _ _ us hl => match us, hl with | [_], _ => rfl),
    mkDef X G a27 l27 c27 k27 (fun _ _ _ _ _ _ us hl => match us, hl with | [_, _], _ => rfl),
    mkDef X G a28 l28 c28 k28 (fun _ _ _ _ _ _ us hl => match us, hl with | [_, _, _, _], _ => rfl),
    mkDef X G a29 l29 c29 k29 (fun _ _ _ _ _ _ us hl => match us, hl with | [_, _], _ => rfl),
    mkDef X G a30 l30 c30 k30 (fun _ _ _ _ _ _ us hl => match us, hl with | [_], _ => rfl),
    mkExc X G xa1 xk1 xq1 xs1 xt1,
    mkExc X G xa4 xk4 xq4 xs4 xt4,
    mkExc X G xa5 xk5 xq5 xs5 xt5,
    mkExc X G xa9 xk9 xq9 xs9 xt9,
    PySem.W.mg_of X G xa0,
    PySem.W.mg_of X G xa1,
    PySem.W.mg_of X G xa2,
    PySem.W.mg_of X G xa3,
    PySem.W.mg_of X G xa4,
    PySem.W.mg_of X G xa5,
    PySem.W.mg_of X G xa6,
    PySem.W.mg_of X G xa7,
    PySem.W.mg_of X G xa8,
    PySem.W.mg_of X G xa9,
    PySem.W.mg_of X G xa10,
    PySem.W.mg_of X G xa11,
    PySem.W.mg_of X G xa12,
    rfl,
    ⟨H1, H4, H5, H9⟩,
    ⟨_, _, _, _, l27, rfl⟩,
    ⟨_, _, _, _, l28, rfl⟩,
    nd,
    ⟨_, PySem.W.mg_of X G co0⟩,
    ⟨_, PySem.W.mg_of X G co1⟩,
    ⟨_, PySem.W.mg_of X G co2⟩,
    co3,
    ⟨_, PySem.W.mg_of X G co4⟩,
    ⟨_, PySem.W.mg_of X G co5⟩,
    PySem.W.mg_none_of X G z0,
    PySem.W.mg_none_of X G z1,
    PySem.W.mg_none_of X G z2,
    PySem.W.mg_none_of X G z3,
    PySem.W.mg_none_of X G z4,
    PySem.W.mg_none_of X G z5,
    PySem.W.mg_none_of X G z6,
    PySem.W.mg_none_of X G z7,
    PySem.W.mg_none_of X G z8,
    PySem.W.mg_none_of X G z9,
    PySem.W.mg_none_of X G z10,
    PySem.W.mg_none_of X G z11,
    PySem.W.mg_none_of X G z12,
    PySem.W.mg_none_of X G z13,
    PySem.W.mg_none_of X G z14⟩
  · intro p hp
    simp only [cs, List.mem_cons, List.not_mem_nil, or_false] at hp
    rcases hp with rfl | rfl
    · exact TT _ _ _ tr27 (tabIn_of a27 l27 rfl tl27 th27)
    · exact TT _ _ _ tr28 (tabIn_of a28 l28 rfl tl28 th28)
end K01

namespace K01
open PySem PySem.Spec PyProof.Rows L2 Dl
theorem finish {P : Program} {w : World} {K : PySem.W.Frag} {mg : Str → Option Value} {fa : Addr} {h : Heap} (X : K.In h) (A : ∃ a : Ad, a.law = fa ∧ Tx K mg a ∧ PySem.W.noTabs K = true ∧ ∀ p ∈ cs a, PySem.W.CodeHd h p.1 p.2 ∧ h.get? p.2 = some { cls := .none, data := .fields #[] }) : LawAt P w K 17 mg fa h := by
  obtain ⟨a, rfl, T, nt, C⟩ := A
  exact LawAt.ofT (cs a) (Tl a) (law_true a T.era) X nt C (fun t ht => by
    simp only [Tl, List.mem_cons, List.not_mem_nil, or_false] at ht
    rcases ht with rfl | rfl
    · exact ⟨(a.c__law_by_one, a.p__law_by_one), by simp [cs], rfl⟩
    · exact ⟨(a.c__law_by_three, a.p__law_by_three), by simp [cs], rfl⟩) (ok_law T)
end K01

open PySem PySem.W PyProof.Rows in
set_option maxRecDepth 100000 in
set_option maxHeartbeats 0 in
theorem PySem.Challenge.cw_wedgelooks_k01_wedges_copies_and_looks_holds : PySem.Challenge.rw_wedgelooks_k01_wedges_copies_and_looks.Holds := by
  w_on; o_law; k_head; (case hw => w_witness2)
  k_fill
  refine Dl.walk_law (l := PySem.Challenge.rw_wedgelooks_k01_wedges_copies_and_looks) (k := 17) rfl rfl ⟨rfl, by decide, by decide⟩ (fun w h Y => by first | exact PySem.W.kIn_of Y | exact PySem.W.km_in_of Y) ?F
  case F =>
    intro w mg fa h XL Y KX G hmg TT
    have co3 : ∃ t, mg "MOST_NUMBER" = some (.int (1000000000000000000000000000000) t) := Dl.mkLoose XL (by simp)
    refine K01.finish KX ?_
    refine' K01.all_mk KX G hmg TT ?a0 ?l0 ?c0 ?k0 ?a1 ?l1 ?c1 ?k1 ?a2 ?l2 ?c2 ?k2 ?a3 ?l3 ?c3 ?k3 ?a4 ?l4 ?c4 ?k4 ?a5 ?l5 ?c5 ?k5 ?a6 ?l6 ?c6 ?k6 ?a7 ?l7 ?c7 ?k7 ?a8 ?l8 ?c8 ?k8 ?a9 ?l9 ?c9 ?k9 ?a10 ?l10 ?c10 ?k10 ?a11 ?l11 ?c11 ?k11 ?a12 ?l12 ?c12 ?k12 ?a13 ?l13 ?c13 ?k13 ?a14 ?l14 ?c14 ?k14 ?a15 ?l15 ?c15 ?k15 ?a16 ?l16 ?c16 ?k16 ?a17 ?l17 ?c17 ?k17 ?a18 ?l18 ?c18 ?k18 ?a19 ?l19 ?c19 ?k19 ?a20 ?l20 ?c20 ?k20 ?a21 ?l21 ?c21 ?k21 ?a22 ?l22 ?c22 ?k22 ?a23 ?l23 ?c23 ?k23 ?a24 ?l24 ?c24 ?k24 ?a25 ?l25 ?c25 ?k25 ?a26 ?l26 ?c26 ?k26 ?a27 ?l27 ?c27 ?k27 ?tl27 ?th27 ?tr27 ?a28 ?l28 ?c28 ?k28 ?tl28 ?th28 ?tr28 ?a29 ?l29 ?c29 ?k29 ?a30 ?l30 ?c30 ?k30 ?xa0 ?xa1 ?xa2 ?xa3 ?xa4 ?xa5 ?xa6 ?xa7 ?xa8 ?xa9 ?xa10 ?xa11 ?xa12 ?xk1 ?xq1 ?xs1 ?xt1 ?xk4 ?xq4 ?xs4 ?xt4 ?xk5 ?xq5 ?xs5 ?xt5 ?xk9 ?xq9 ?xs9 ?xt9 ?xt0 ?gd0 ?gd1 ?xt2 ?gd2 ?xt3 ?gd3 ?gd4 ?gd5 ?xt6 ?gd6 ?xt7 ?gd7 ?xt8 ?gd8 ?gd9 ?xt10 ?gd10 ?xt11 ?gd11 ?xt12 ?gd12 ?xs12 ?gg1 ?gk1 ?ga1 ?gm1 ?gs1_W ?gs1_S ?gs1_wedge ?gs1_number ?gs1_index ?gs1_copy ?gs1_look ?gs1_colour ?gs1_form ?gs1_seen ?gs1_deed ?gs1_text ?gs1_undo ?gs1_many ?gg4 ?gk4 ?ga4 ?gm4 ?gs4_W ?gs4_S ?gs4_wedge ?gs4_number ?gs4_index ?gs4_copy ?gs4_look ?gs4_colour ?gs4_form ?gs4_seen ?gs4_deed ?gs4_text ?gs4_undo ?gs4_many ?gg5 ?gk5 ?ga5 ?gm5 ?gs5_W ?gs5_S ?gs5_wedge ?gs5_number ?gs5_index ?gs5_copy ?gs5_look ?gs5_colour ?gs5_form ?gs5_seen ?gs5_deed ?gs5_text ?gs5_undo ?gs5_many ?gg9 ?gk9 ?ga9 ?gm9 ?gs9_W ?gs9_S ?gs9_wedge ?gs9_number ?gs9_index ?gs9_copy ?gs9_look ?gs9_colour ?gs9_form ?gs9_seen ?gs9_deed ?gs9_text ?gs9_undo ?gs9_many ?gn ?gt ?co0 ?co1 ?co2 co3 ?co4 ?co5 ?z0 ?z1 ?z2 ?z3 ?z4 ?z5 ?z6 ?z7 ?z8 ?z9 ?z10 ?z11 ?z12 ?z13 ?z14 ?nt ?nd
    (case a0 => k_is)
    (case l0 => k_is)
    (case c0 => k_is)
    (case k0 => k_is)
    (case a1 => k_is)
    (case l1 => k_is)
    (case c1 => k_is)
    (case k1 => k_is)
    (case a2 => k_is)
    (case l2 => k_is)
    (case c2 => k_is)
    (case k2 => k_is)
    (case a3 => k_is)
    (case l3 => k_is)
    (case c3 => k_is)
    (case k3 => k_is)
    (case a4 => k_is)
    (case l4 => k_is)
    (case c4 => k_is)
    (case k4 => k_is)
    (case a5 => k_is)
    (case l5 => k_is)
    (case c5 => k_is)
    (case k5 => k_is)
    (case a6 => k_is)
    (case l6 => k_is)
    (case c6 => k_is)
    (case k6 => k_is)
    (case a7 => k_is)
    (case l7 => k_is)
    (case c7 => k_is)
    (case k7 => k_is)
    (case a8 => k_is)
    (case l8 => k_is)
    (case c8 => k_is)
    (case k8 => k_is)
    (case a9 => k_is)
    (case l9 => k_is)
    (case c9 => k_is)
    (case k9 => k_is)
    (case a10 => k_is)
    (case l10 => k_is)
    (case c10 => k_is)
    (case k10 => k_is)
    (case a11 => k_is)
    (case l11 => k_is)
    (case c11 => k_is)
    (case k11 => k_is)
    (case a12 => k_is)
    (case l12 => k_is)
    (case c12 => k_is)
    (case k12 => k_is)
    (case a13 => k_is)
    (case l13 => k_is)
    (case c13 => k_is)
    (case k13 => k_is)
    (case a14 => k_is)
    (case l14 => k_is)
    (case c14 => k_is)
    (case k14 => k_is)
    (case a15 => k_is)
    (case l15 => k_is)
    (case c15 => k_is)
    (case k15 => k_is)
    (case a16 => k_is)
    (case l16 => k_is)
    (case c16 => k_is)
    (case k16 => k_is)
    (case a17 => k_is)
    (case l17 => k_is)
    (case c17 => k_is)
    (case k17 => k_is)
    (case a18 => k_is)
    (case l18 => k_is)
    (case c18 => k_is)
    (case k18 => k_is)
    (case a19 => k_is)
    (case l19 => k_is)
    (case c19 => k_is)
    (case k19 => k_is)
    (case a20 => k_is)
    (case l20 => k_is)
    (case c20 => k_is)
    (case k20 => k_is)
    (case a21 => k_is)
    (case l21 => k_is)
    (case c21 => k_is)
    (case k21 => k_is)
    (case a22 => k_is)
    (case l22 => k_is)
    (case c22 => k_is)
    (case k22 => k_is)
    (case a23 => k_is)
    (case l23 => k_is)
    (case c23 => k_is)
    (case k23 => k_is)
    (case a24 => k_is)
    (case l24 => k_is)
    (case c24 => k_is)
    (case k24 => k_is)
    (case a25 => k_is)
    (case l25 => k_is)
    (case c25 => k_is)
    (case k25 => k_is)
    (case a26 => k_is)
    (case l26 => k_is)
    (case c26 => k_is)
    (case k26 => k_is)
    (case a27 => k_is)
    (case l27 => k_is)
    (case c27 => k_is)
    (case k27 => k_is)
    (case tl27 => k_is)
    (case th27 => rfl)
    (case tr27 => decide +kernel)
    (case a28 => k_is)
    (case l28 => k_is)
    (case c28 => k_is)
    (case k28 => k_is)
    (case tl28 => k_is)
    (case th28 => rfl)
    (case tr28 => decide +kernel)
    (case a29 => k_is)
    (case l29 => k_is)
    (case c29 => k_is)
    (case k29 => k_is)
    (case a30 => k_is)
    (case l30 => k_is)
    (case c30 => k_is)
    (case k30 => k_is)
    (case xa0 => k_is)
    (case xa1 => k_is)
    (case xa2 => k_is)
    (case xa3 => k_is)
    (case xa4 => k_is)
    (case xa5 => k_is)
    (case xa6 => k_is)
    (case xa7 => k_is)
    (case xa8 => k_is)
    (case xa9 => k_is)
    (case xa10 => k_is)
    (case xa11 => k_is)
    (case xa12 => k_is)
    (case xk1 => k_is)
    (case xq1 => k_exc)
    (case xs1 => k_is)
    (case xt1 => k_is)
    (case xk4 => k_is)
    (case xq4 => k_exc)
    (case xs4 => k_is)
    (case xt4 => k_is)
    (case xk5 => k_is)
    (case xq5 => k_exc)
    (case xs5 => k_is)
    (case xt5 => k_is)
    (case xk9 => k_is)
    (case xq9 => k_exc)
    (case xs9 => k_is)
    (case xt9 => k_is)
    (case xt0 => k_is)
    (case gd0 => k_is)
    (case gd1 => k_is)
    (case xt2 => k_is)
    (case gd2 => k_is)
    (case xt3 => k_is)
    (case gd3 => k_is)
    (case gd4 => k_is)
    (case gd5 => k_is)
    (case xt6 => k_is)
    (case gd6 => k_is)
    (case xt7 => k_is)
    (case gd7 => k_is)
    (case xt8 => k_is)
    (case gd8 => k_is)
    (case gd9 => k_is)
    (case xt10 => k_is)
    (case gd10 => k_is)
    (case xt11 => k_is)
    (case gd11 => k_is)
    (case xt12 => k_is)
    (case gd12 => k_is)
    (case xs12 => k_is)
    (case gg1 => k_is)
    (case gk1 => k_is)
    (case ga1 => k_is)
    (case gm1 => k_is)
    (case gs1_W => k_is)
    (case gs1_S => k_is)
    (case gs1_wedge => k_is)
    (case gs1_number => k_is)
    (case gs1_index => k_is)
    (case gs1_copy => k_is)
    (case gs1_look => k_is)
    (case gs1_colour => k_is)
    (case gs1_form => k_is)
    (case gs1_seen => k_is)
    (case gs1_deed => k_is)
    (case gs1_text => k_is)
    (case gs1_undo => k_is)
    (case gs1_many => k_is)
    (case gg4 => k_is)
    (case gk4 => k_is)
    (case ga4 => k_is)
    (case gm4 => k_is)
    (case gs4_W => k_is)
    (case gs4_S => k_is)
    (case gs4_wedge => k_is)
    (case gs4_number => k_is)
    (case gs4_index => k_is)
    (case gs4_copy => k_is)
    (case gs4_look => k_is)
    (case gs4_colour => k_is)
    (case gs4_form => k_is)
    (case gs4_seen => k_is)
    (case gs4_deed => k_is)
    (case gs4_text => k_is)
    (case gs4_undo => k_is)
    (case gs4_many => k_is)
    (case gg5 => k_is)
    (case gk5 => k_is)
    (case ga5 => k_is)
    (case gm5 => k_is)
    (case gs5_W => k_is)
    (case gs5_S => k_is)
    (case gs5_wedge => k_is)
    (case gs5_number => k_is)
    (case gs5_index => k_is)
    (case gs5_copy => k_is)
    (case gs5_look => k_is)
    (case gs5_colour => k_is)
    (case gs5_form => k_is)
    (case gs5_seen => k_is)
    (case gs5_deed => k_is)
    (case gs5_text => k_is)
    (case gs5_undo => k_is)
    (case gs5_many => k_is)
    (case gg9 => k_is)
    (case gk9 => k_is)
    (case ga9 => k_is)
    (case gm9 => k_is)
    (case gs9_W => k_is)
    (case gs9_S => k_is)
    (case gs9_wedge => k_is)
    (case gs9_number => k_is)
    (case gs9_index => k_is)
    (case gs9_copy => k_is)
    (case gs9_look => k_is)
    (case gs9_colour => k_is)
    (case gs9_form => k_is)
    (case gs9_seen => k_is)
    (case gs9_deed => k_is)
    (case gs9_text => k_is)
    (case gs9_undo => k_is)
    (case gs9_many => k_is)
    (case gn => k_is)
    (case gt => k_is)
    (case co0 => k_is)
    (case co1 => k_is)
    (case co2 => k_is)
    (case co4 => k_is)
    (case co5 => k_is)
    (case z0 => k_is)
    (case z1 => k_is)
    (case z2 => k_is)
    (case z3 => k_is)
    (case z4 => k_is)
    (case z5 => k_is)
    (case z6 => k_is)
    (case z7 => k_is)
    (case z8 => k_is)
    (case z9 => k_is)
    (case z10 => k_is)
    (case z11 => k_is)
    (case z12 => k_is)
    (case z13 => k_is)
    (case z14 => k_is)
    (case nt => first | rfl | kernel_rfl)
    (case nd => decide)
