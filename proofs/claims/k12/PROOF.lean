import PyProof.Rows.All
import Wide.All
import OpenK.AllK
import Wide.FinOn
import HandS.ForMost
import HandS.Exc
import HandS.ExcOwn
import HandS.TryOnly
import HandS.WordsExc
import HandS.Wide
import HandS.IsInst
import HandS.ExcIs
import HandS.TupAny
import HandS.TupMul
import HandS.Rev
import HandS.Walk
import HandS.HotCalls
import HandS.SetFor
import KE.GoesEnum
import HandS.Conv
import HandS.Style
import HandS.Defaults
import PySem.Challenge.RW_slopeverdict_k12_whole_rules_of_quotient
set_option Elab.async false
set_option linter.all false
set_option maxRecDepth 100000
set_option maxHeartbeats 4000000
/-! DLa: data instead of addresses. Tuples are values; lists and instances stand in a store. -/
namespace L2
namespace DL
open PySem PySem.Spec PyProof.Rows

/-- a value as data -/
inductive D where
  | non
  | bl (b : Bool)
  | int (i : Int)
  | str (x : Str)
  | ty (n : String)
  | ref (a : Addr)
  | tup (xs : List D)
  /-- a list that never changes -/
  | ltv (xs : List D)

def SqI (K : PySem.W.Frag) (H : Hp) (a : Addr) (xs : List V) : Prop :=
  (∃ o, H a = some (.frz o (.lst xs))) ∨ ∃ (o : Obj) (its : Array Value) (n : Nat), K.lookup a = some o ∧ o.cls = .type "list" ∧ o.dict = none ∧ o.data = .seq its n ∧ its.size ≤ sizeLine ∧ Vals xs its.toList
theorem SqI.sq {K : PySem.W.Frag} {H : Hp} {a : Addr} {xs : List V} (h : SqI K H a xs) : SqL K H a xs := by
  rcases h with h | h
  · exact .inl (.inr h)
  · exact .inr h
theorem SqI.of {K : PySem.W.Frag} {H : Hp} {a : Addr} {xs : List V} (h : SqL K H a xs) (n : ∀ b, H b = none ∨ ∃ o ys, H b = some (.frz o (.lst ys))) : SqI K H a xs := by
  rcases h with (h | h) | h
  · rcases n a with e | ⟨o, ys, e⟩
    · rw [h] at e; cases e
    · rw [h] at e; cases e
  · exact .inl h
  · exact .inr h
mutual
inductive Rep (K : PySem.W.Frag) (H : Hp) : D → V → Prop
  | non : Rep K H .non .non
  | bl (b : Bool) : Rep K H (.bl b) (.bl b)
  | int (i : Int) : Rep K H (.int i) (.int i)
  | str (x : Str) : Rep K H (.str x) (.str x)
  | ty (n : String) : Rep K H (.ty n) (.ty n)
  | ref (a : Addr) : Rep K H (.ref a) (.ref a)
  | tup {ds : List D} {a : Addr} {xs : List V} : SqT K H a xs → Reps K H ds xs → Rep K H (.tup ds) (.ref a)
  | ltv {ds : List D} {a : Addr} {xs : List V} : SqI K H a xs → Reps K H ds xs → Rep K H (.ltv ds) (.ref a)
inductive Reps (K : PySem.W.Frag) (H : Hp) : List D → List V → Prop
  | nil : Reps K H [] []
  | cons {d : D} {v : V} {ds : List D} {vs : List V} : Rep K H d v → Reps K H ds vs → Reps K H (d :: ds) (v :: vs)
end

/-- objects that never change -/
def Imm : HO → Prop
  | .tup _ => True
  | .frz _ _ => True
  | _ => False
def Kept (H H' : Hp) : Prop := ∀ a o, H a = some o → Imm o → H' a = some o
theorem Kept.refl (H : Hp) : Kept H H := fun _ _ e _ => e
theorem Kept.trans {H H1 H2 : Hp} (a : Kept H H1) (b : Kept H1 H2) : Kept H H2 := fun x o e i => b x o (a x o e i) i
theorem Kept.new {H : Hp} {p : Addr} {o : HO} (n : H p = none) : Kept H (upd H p o) := fun a u e _ => by
  rw [upd_ne (ne_of_none e n)]; exact e
theorem Kept.mut {H : Hp} {p : Addr} {o u : HO} (n : H p = some o) (i : ¬ Imm o) : Kept H (upd H p u) := fun a v e j => by
  have ne : a ≠ p := by
    rintro rfl
    rw [n] at e
    cases e
    exact i j
  rw [upd_ne ne]; exact e
theorem Kept.sqT {K : PySem.W.Frag} {H H' : Hp} {a : Addr} {xs : List V} (k : Kept H H') (h : SqT K H a xs) : SqT K H' a xs := by
  rcases h with (h | ⟨o, h⟩) | h
  · exact .inl (.inl (k _ _ h trivial))
  · exact .inl (.inr ⟨o, k _ _ h trivial⟩)
  · exact .inr h
theorem Kept.sqI {K : PySem.W.Frag} {H H' : Hp} {a : Addr} {xs : List V} (k : Kept H H') (h : SqI K H a xs) : SqI K H' a xs := by
  rcases h with ⟨o, h⟩ | h
  · exact .inl ⟨o, k _ _ h trivial⟩
  · exact .inr h
mutual
theorem Rep.mono {K : PySem.W.Frag} {H H' : Hp} (k : Kept H H') : ∀ {d : D} {v : V}, Rep K H d v → Rep K H' d v
  | _, _, .non => .non
  | _, _, .bl b => .bl b
  | _, _, .int i => .int i
  | _, _, .str x => .str x
  | _, _, .ty n => .ty n
  | _, _, .ref a => .ref a
  | _, _, .tup h r => .tup (k.sqT h) (Reps.mono k r)
  | _, _, .ltv h r => .ltv (k.sqI h) (Reps.mono k r)
theorem Reps.mono {K : PySem.W.Frag} {H H' : Hp} (k : Kept H H') : ∀ {ds : List D} {vs : List V}, Reps K H ds vs → Reps K H' ds vs
  | _, _, .nil => .nil
  | _, _, .cons r t => .cons (Rep.mono k r) (Reps.mono k t)
end
section
variable {K : PySem.W.Frag} {H : Hp}
theorem Reps.len : ∀ {ds : List D} {vs : List V}, Reps K H ds vs → vs.length = ds.length
  | _, _, .nil => rfl
  | _, _, .cons _ t => by simp [Reps.len t]
theorem Reps.get : ∀ {ds : List D} {vs : List V} {i : Nat} {d : D}, Reps K H ds vs → ds[i]? = some d → ∃ v, vs[i]? = some v ∧ Rep K H d v
  | _, _, _, _, .nil, e => by simp at e
  | _, _, 0, _, .cons r _, e => by simp at e; subst e; exact ⟨_, rfl, r⟩
  | _, _, i + 1, _, .cons _ t, e => by
    obtain ⟨v, h1, h2⟩ := Reps.get (i := i) t (by simpa using e)
    exact ⟨v, by simpa using h1, h2⟩
theorem Reps.get' : ∀ {ds : List D} {vs : List V} {i : Nat} {v : V}, Reps K H ds vs → vs[i]? = some v → ∃ d, ds[i]? = some d ∧ Rep K H d v
  | _, _, _, _, .nil, e => by simp at e
  | _, _, 0, _, .cons r _, e => by simp at e; subst e; exact ⟨_, rfl, r⟩
  | _, _, i + 1, _, .cons _ t, e => by
    obtain ⟨v, h1, h2⟩ := Reps.get' (i := i) t (by simpa using e)
    exact ⟨v, by simpa using h1, h2⟩
theorem Reps.append : ∀ {ds es : List D} {vs ws : List V}, Reps K H ds vs → Reps K H es ws → Reps K H (ds ++ es) (vs ++ ws)
  | _, _, _, _, .nil, s => s
  | _, _, _, _, .cons r t, s => .cons r (Reps.append t s)
theorem Reps.drop : ∀ {ds : List D} {vs : List V} (n : Nat), Reps K H ds vs → Reps K H (ds.drop n) (vs.drop n)
  | _, _, 0, r => r
  | _, _, _ + 1, .nil => .nil
  | _, _, n + 1, .cons _ t => Reps.drop n t
theorem Reps.take : ∀ {ds : List D} {vs : List V} (n : Nat), Reps K H ds vs → Reps K H (ds.take n) (vs.take n)
  | _, _, 0, _ => .nil
  | _, _, _ + 1, .nil => .nil
  | _, _, n + 1, .cons r t => .cons r (Reps.take n t)
theorem Reps.set {d : D} {v : V} (r : Rep K H d v) : ∀ {ds : List D} {vs : List V} (i : Nat), Reps K H ds vs → Reps K H (ds.set i d) (vs.set i v)
  | _, _, _, .nil => .nil
  | _, _, 0, .cons _ t => .cons r t
  | _, _, i + 1, .cons q t => .cons q (Reps.set r i t)
theorem Reps.one {d : D} {v : V} (r : Rep K H d v) : Reps K H [d] [v] := .cons r .nil
theorem Reps.rep {ds : List D} {vs : List V} (r : Reps K H ds vs) : ∀ k : Nat, Reps K H (List.replicate k ds).flatten (List.replicate k vs).flatten
  | 0 => .nil
  | k + 1 => by
    rw [List.replicate_succ, List.replicate_succ, List.flatten_cons, List.flatten_cons]
    exact r.append (Reps.rep r k)
theorem Reps.dropLast {ds : List D} {vs : List V} (r : Reps K H ds vs) : Reps K H ds.dropLast vs.dropLast := by
  rw [List.dropLast_eq_take, List.dropLast_eq_take, r.len]
  exact r.take _
end

/-- what stands at an address -/
inductive MO where
  /-- a list that may be written, one that is read alone -/
  | lst (ds : List D)
  | ro (ds : List D)
  /-- an instance of the class at C -/
  | ins (C : Addr) (fs : List (Str × D))
  /-- a caught error of the class at C -/
  | exc (C : Addr)
abbrev Sto := Addr → Option MO
def sup (S : Sto) (a : Addr) (o : MO) : Sto := fun b => if b = a then some o else S b
theorem sup_same {S : Sto} {a : Addr} {o : MO} : sup S a o a = some o := by unfold sup; rw [if_pos rfl]
theorem sup_ne {S : Sto} {a b : Addr} {o : MO} (h : b ≠ a) : sup S a o b = S b := by unfold sup; rw [if_neg h]
theorem sup_sup {S : Sto} {a : Addr} {o u : MO} : sup (sup S a o) a u = sup S a u := by
  funext b; unfold sup; split <;> rfl
inductive RepF (K : PySem.W.Frag) (H : Hp) : List (Str × D) → List (Str × V) → Prop
  | nil : RepF K H [] []
  | cons {f : Str} {d : D} {v : V} {fs : List (Str × D)} {gs : List (Str × V)} : Rep K H d v → RepF K H fs gs → RepF K H ((f, d) :: fs) ((f, v) :: gs)
theorem RepF.mono {K : PySem.W.Frag} {H H' : Hp} (k : Kept H H') : ∀ {fs : List (Str × D)} {gs : List (Str × V)}, RepF K H fs gs → RepF K H' fs gs
  | _, _, .nil => .nil
  | _, _, .cons r t => .cons (r.mono k) (RepF.mono k t)
/-- the object of a caught error -/
def ExcAt (C a : Addr) : Heap → Prop := fun h => ∃ oe, h.get? a = some oe ∧ Zc (.ref C) none oe ∧ ∃ vs, oe.data = .fields vs
def RepO (K : PySem.W.Frag) (H : Hp) (a : Addr) : MO → Prop
  | .lst ds => ∃ xs, H a = some (.lst xs) ∧ Reps K H ds xs
  | .ro ds => ∃ xs, Rd H a (.lst xs) ∧ Reps K H ds xs
  | .ins C fs => ∃ dx gs, H a = some (.ins C dx gs) ∧ RepF K H fs gs
  | .exc C => H a = some (.ext (ExcAt C a))
def RelS (K : PySem.W.Frag) (S : Sto) (H : Hp) : Prop := ∀ a o, S a = some o → RepO K H a o
theorem RepO.there {K : PySem.W.Frag} {H : Hp} {a : Addr} {o : MO} (r : RepO K H a o) : ∃ u, H a = some u := by
  cases o with
  | lst ds => obtain ⟨xs, e, _⟩ := r; exact ⟨_, e⟩
  | ro ds =>
    obtain ⟨xs, e, _⟩ := r
    rcases e with e | ⟨o, e⟩
    · exact ⟨_, e⟩
    · exact ⟨_, e⟩
  | ins C fs => obtain ⟨dx, gs, e, _⟩ := r; exact ⟨_, e⟩
  | exc C => exact ⟨_, r⟩
theorem RelS.fresh {K : PySem.W.Frag} {S : Sto} {H : Hp} {p : Addr} (r : RelS K S H) (n : H p = none) : S p = none := by
  cases e : S p with
  | none => rfl
  | some o =>
    obtain ⟨u, q⟩ := (r p o e).there
    rw [n] at q; cases q
/-- an object stays where its own place does, and tuples do -/
theorem RepO.stay {K : PySem.W.Frag} {H H' : Hp} {a : Addr} {o : MO} (k : Kept H H') (e : H' a = H a) (r : RepO K H a o) : RepO K H' a o := by
  cases o with
  | lst ds => obtain ⟨xs, h, q⟩ := r; exact ⟨xs, e.trans h, q.mono k⟩
  | ro ds =>
    obtain ⟨xs, h, q⟩ := r
    refine ⟨xs, ?_, q.mono k⟩
    rcases h with h | ⟨o, h⟩
    · exact .inl (e.trans h)
    · exact .inr ⟨o, e.trans h⟩
  | ins C fs => obtain ⟨dx, gs, h, q⟩ := r; exact ⟨dx, gs, e.trans h, q.mono k⟩
  | exc C => exact e.trans r
/-- a new object in the heap that the store does not know -/
theorem RelS.newT {K : PySem.W.Frag} {S : Sto} {H : Hp} {p : Addr} {o : HO} (r : RelS K S H) (n : H p = none) : RelS K S (upd H p o) := fun a u e => by
  obtain ⟨v, q⟩ := (r a u e).there
  exact (r a u e).stay (Kept.new n) (upd_ne (ne_of_none q n))
theorem RelS.put {K : PySem.W.Frag} {S : Sto} {H : Hp} {p : Addr} {o : HO} {m : MO} (r : RelS K S H) (k : Kept H (upd H p o)) (h : RepO K (upd H p o) p m) : RelS K (sup S p m) (upd H p o) := fun a u e => by
  by_cases ha : a = p
  · subst ha
    rw [sup_same] at e; cases e; exact h
  · rw [sup_ne ha] at e
    exact (r a u e).stay k (upd_ne ha)
theorem RelS.newL {K : PySem.W.Frag} {S : Sto} {H : Hp} {p : Addr} {ds : List D} {xs : List V} (r : RelS K S H) (n : H p = none) (h : Reps K H ds xs) : RelS K (sup S p (.lst ds)) (upd H p (.lst xs)) :=
  r.put (Kept.new n) ⟨xs, upd_same, h.mono (Kept.new n)⟩
theorem nimm_lst {xs : List V} : ¬ Imm (.lst xs) := fun h => h
theorem RelS.setL {K : PySem.W.Frag} {S : Sto} {H : Hp} {p : Addr} {ds : List D} {xs ys : List V} (r : RelS K S H) (n : H p = some (.lst ys)) (h : Reps K H ds xs) : RelS K (sup S p (.lst ds)) (upd H p (.lst xs)) :=
  r.put (Kept.mut n nimm_lst) ⟨xs, upd_same, h.mono (Kept.mut n nimm_lst)⟩
/-- forgetting -/
def Sub (S S' : Sto) : Prop := ∀ a o, S a = some o → S' a = some o
theorem Sub.refl (S : Sto) : Sub S S := fun _ _ e => e
theorem Sub.trans {S S1 S2 : Sto} (a : Sub S S1) (b : Sub S1 S2) : Sub S S2 := fun x o e => b x o (a x o e)
theorem Sub.new {S : Sto} {p : Addr} {o : MO} (n : S p = none) : Sub S (sup S p o) := fun a u e => by
  rw [sup_ne]; · exact e
  · rintro rfl; rw [n] at e; cases e
theorem Sub.mut {S S' : Sto} {p : Addr} {o : MO} (s : Sub S S') (n : S p = none) : Sub S (sup S' p o) := fun a u e => by
  rw [sup_ne]; · exact s a u e
  · rintro rfl; rw [n] at e; cases e
theorem Sub.free {S S' : Sto} {p : Addr} (s : Sub S S') (n : S' p = none) : S p = none := by
  cases e : S p with
  | none => rfl
  | some o => rw [s p o e] at n; cases n
theorem RelS.sub {K : PySem.W.Frag} {S S' : Sto} {H : Hp} (r : RelS K S' H) (s : Sub S S') : RelS K S H := fun a o e => r a o (s a o e)

/-- the frame's names -/
abbrev DSt := List (Option D)
inductive RepL0 (K : PySem.W.Frag) (H : Hp) : DSt → St → Prop
  | nil : RepL0 K H [] []
  | free {o : Option V} {δ : DSt} {σ : St} : RepL0 K H δ σ → RepL0 K H (none :: δ) (o :: σ)
  | cons {d : D} {v : V} {δ : DSt} {σ : St} : Rep K H d v → RepL0 K H δ σ → RepL0 K H (some d :: δ) (some v :: σ)
section
variable {K : PySem.W.Frag} {H H' : Hp}
theorem RepL0.mono (k : Kept H H') : ∀ {δ : DSt} {σ : St}, RepL0 K H δ σ → RepL0 K H' δ σ
  | _, _, .nil => .nil
  | _, _, .free t => .free (RepL0.mono k t)
  | _, _, .cons r t => .cons (r.mono k) (RepL0.mono k t)
theorem RepL0.get : ∀ {δ : DSt} {σ : St} {i : Nat} {d : D}, RepL0 K H δ σ → δ[i]? = some (some d) → ∃ v, σ[i]? = some (some v) ∧ Rep K H d v
  | _, _, _, _, .nil, e => by simp at e
  | _, _, 0, _, .free _, e => by simp at e
  | _, _, 0, _, .cons r _, e => by simp at e; subst e; exact ⟨_, rfl, r⟩
  | _, _, i + 1, _, .free t, e => by
    obtain ⟨v, h1, h2⟩ := RepL0.get (i := i) t (by simpa using e)
    exact ⟨v, by simpa using h1, h2⟩
  | _, _, i + 1, _, .cons _ t, e => by
    obtain ⟨v, h1, h2⟩ := RepL0.get (i := i) t (by simpa using e)
    exact ⟨v, by simpa using h1, h2⟩
theorem RepL0.set {d : D} {v : V} (r : Rep K H d v) : ∀ {δ : DSt} {σ : St} (i : Nat), RepL0 K H δ σ → RepL0 K H (δ.set i (some d)) (σ.set i (some v))
  | _, _, _, .nil => .nil
  | _, _, 0, .free t => .cons r t
  | _, _, 0, .cons _ t => .cons r t
  | _, _, i + 1, .free t => .free (RepL0.set r i t)
  | _, _, i + 1, .cons q t => .cons q (RepL0.set r i t)
theorem RepL0.unset {o : Option V} : ∀ {δ : DSt} {σ : St} (i : Nat), RepL0 K H δ σ → RepL0 K H (δ.set i none) (σ.set i o)
  | _, _, _, .nil => .nil
  | _, _, 0, .free t => .free t
  | _, _, 0, .cons _ t => .free t
  | _, _, i + 1, .free t => .free (RepL0.unset i t)
  | _, _, i + 1, .cons q t => .cons q (RepL0.unset i t)
theorem RepL0.len : ∀ {δ : DSt} {σ : St}, RepL0 K H δ σ → σ.length = δ.length
  | _, _, .nil => rfl
  | _, _, .free t => by simp [RepL0.len t]
  | _, _, .cons _ t => by simp [RepL0.len t]
theorem RepL0.frees : ∀ (n : Nat), RepL0 K H (List.replicate n none) (List.replicate n none)
  | 0 => .nil
  | n + 1 => by rw [List.replicate_succ, List.replicate_succ]; exact .free (RepL0.frees n)
theorem RepL0.start : ∀ {ds : List D} {vs : List V} {n : Nat}, Reps K H ds vs → RepL0 K H (ds.map some ++ List.replicate n none) (vs.map some ++ List.replicate n none)
  | _, _, n, .nil => RepL0.frees n
  | _, _, _, .cons r t => .cons r (RepL0.start t)
end
def dwipe (δ : DSt) : List Nat → DSt
  | [] => δ
  | v :: vs => (dwipe δ vs).set v none
theorem RepL0.wipe {K : PySem.W.Frag} {H : Hp} {δ : DSt} {σ : St} (r : RepL0 K H δ σ) : ∀ vs : List Nat, RepL0 K H (dwipe δ vs) (L2.wipe σ vs)
  | [] => r
  | v :: vs => (RepL0.wipe r vs).unset v

/-! ### transformers over data -/
abbrev EXK := Addr → DSt → Sto → Prop
abbrev DK := D → Sto → Prop
abbrev DE := EXK → DSt → Sto → DK → Prop
abbrev DT := EXK → DSt → Sto → (Bool → Sto → Prop) → Prop
abbrev DA := EXK → DSt → Sto → (List D → Sto → Prop) → Prop
structure DEnds where
  nx : DSt → Sto → Prop
  rt : DK
  bk : DSt → Sto → Prop := fun _ _ => False
  ct : DSt → Sto → Prop := fun _ _ => False
abbrev DS := EXK → DEnds → DSt → Sto → Prop

/-- what is wanted of an exception, over data: of the own class at C, without a dict; H the heap from which on -/
def UX (K : PySem.W.Frag) (H : Hp) (EX : EXK) (W : WX) : Prop := ∀ C δ S σ H', EX C δ S → RepL0 K H' δ σ → RelS K S H' → Kept H H' → W (.ref C) none σ H'
/-- the frame's names, and that wish -/
structure RepL (K : PySem.W.Frag) (EX : EXK) (W : WX) (H : Hp) (δ : DSt) (σ : St) : Prop where
  r : RepL0 K H δ σ
  x : UX K H EX W
section
variable {K : PySem.W.Frag} {EX : EXK} {W : WX} {H H' : Hp} {δ : DSt} {σ : St}
theorem RepL.mono (k : Kept H H') (h : RepL K EX W H δ σ) : RepL K EX W H' δ σ := ⟨h.r.mono k, fun C δ S σ H1 a b c e => h.x C δ S σ H1 a b c (k.trans e)⟩
theorem RepL.get {i : Nat} {d : D} (h : RepL K EX W H δ σ) (e : δ[i]? = some (some d)) : ∃ v, σ[i]? = some (some v) ∧ Rep K H d v := h.r.get e
theorem RepL.set {d : D} {v : V} (h : RepL K EX W H δ σ) (r : Rep K H d v) (i : Nat) : RepL K EX W H (δ.set i (some d)) (σ.set i (some v)) := ⟨RepL0.set r i h.r, h.x⟩
theorem RepL.unset {o : Option V} (h : RepL K EX W H δ σ) (i : Nat) : RepL K EX W H (δ.set i none) (σ.set i o) := ⟨RepL0.unset i h.r, h.x⟩
end
section
variable (K : PySem.W.Frag) (EX : EXK) (W : WX)
def upE (t : DE) : TE := fun σ H Q => ∃ δ S Qd, RepL K EX W H δ σ ∧ RelS K S H ∧ t EX δ S Qd ∧ ∀ d S' v H', Qd d S' → Rep K H' d v → RelS K S' H' → Kept H H' → Q v H'
def upT (t : DT) : TT := fun σ H Q => ∃ δ S Qd, RepL K EX W H δ σ ∧ RelS K S H ∧ t EX δ S Qd ∧ ∀ b S' H', Qd b S' → RelS K S' H' → Kept H H' → Q b H'
def upA (t : DA) : TA := fun σ H Q => ∃ δ S Qd, RepL K EX W H δ σ ∧ RelS K S H ∧ t EX δ S Qd ∧ ∀ ds S' vs H', Qd ds S' → Reps K H' ds vs → RelS K S' H' → Kept H H' → Q vs H'
/-- ends below ends -/
structure Under (H : Hp) (Dd : DEnds) (T : Ends) : Prop where
  nx : ∀ δ S σ H', Dd.nx δ S → RepL K EX W H' δ σ → RelS K S H' → Kept H H' → T.nx σ H'
  bk : ∀ δ S σ H', Dd.bk δ S → RepL K EX W H' δ σ → RelS K S H' → Kept H H' → T.bk σ H'
  ct : ∀ δ S σ H', Dd.ct δ S → RepL K EX W H' δ σ → RelS K S H' → Kept H H' → T.ct σ H'
  rt : ∀ d S v H', Dd.rt d S → Rep K H' d v → RelS K S H' → Kept H H' → T.rt v H'
def upS (t : DS) : TS := fun T σ H => ∃ δ S Dd, RepL K EX W H δ σ ∧ RelS K S H ∧ t EX Dd δ S ∧ Under K EX W H Dd T
end
theorem Under.mono {K : PySem.W.Frag} {EX : EXK} {W : WX} {H H' : Hp} {Dd : DEnds} {T : Ends} (u : Under K EX W H Dd T) (k : Kept H H') : Under K EX W H' Dd T :=
  ⟨fun δ S σ H1 a b c e => u.nx δ S σ H1 a b c (k.trans e), fun δ S σ H1 a b c e => u.bk δ S σ H1 a b c (k.trans e), fun δ S σ H1 a b c e => u.ct δ S σ H1 a b c (k.trans e), fun d S v H1 a b c e => u.rt d S v H1 a b c (k.trans e)⟩

def IsE (X : Cx) (e : Expr) (t : DE) : Prop := ∀ EX W, Takes X W → PE X e (upE X.K EX W t)
def IsT (X : Cx) (e : Expr) (t : DT) : Prop := ∀ EX W, Takes X W → PT X e (upT X.K EX W t)
def IsW (X : Cx) (e : Expr) (t : DT) : Prop := ∀ EX W, Takes X W → PW X e (upT X.K EX W t)
def IsA (X : Cx) (es : List Expr) (t : DA) : Prop := ∀ EX W, Takes X W → PA X es (upA X.K EX W t)
def IsS (X : Cx) (st : Stmt) (t : DS) : Prop := ∀ EX W, Takes X W → PS X st (upS X.K EX W t)
def IsB (X : Cx) (st : List Stmt) (t : DS) : Prop := ∀ EX W, Takes X W → PSs X st (upS X.K EX W t)
section
variable {X : Cx}
theorem pe_imp {e : Expr} {t t' : TE} (h : PE X e t) (f : ∀ σ H Q, t' σ H Q → t σ H Q) : PE X e t' := ⟨fun pins s σ H Q I q => h.run pins s σ H Q I (f σ H Q q)⟩
theorem pt_imp {e : Expr} {t t' : TT} (h : PT X e t) (f : ∀ σ H Q, t' σ H Q → t σ H Q) : PT X e t' := ⟨fun pins s σ H Q I q => h.run pins s σ H Q I (f σ H Q q)⟩
theorem pw_imp {e : Expr} {t t' : TT} (h : PW X e t) (f : ∀ σ H Q, t' σ H Q → t σ H Q) : PW X e t' := ⟨fun wh pins s σ H Q I q => h.run wh pins s σ H Q I (f σ H Q q)⟩
theorem pa_imp {e : List Expr} {t t' : TA} (h : PA X e t) (f : ∀ σ H Q, t' σ H Q → t σ H Q) : PA X e t' := ⟨fun pos pins s σ H Q I q => h.run pos pins s σ H Q I (f σ H Q q)⟩
theorem ps_imp {e : Stmt} {t t' : TS} (h : PS X e t) (f : ∀ T σ H, t' T σ H → t T σ H) : PS X e t' := ⟨fun pins s σ H T I q => h.run pins s σ H T I (f T σ H q)⟩
theorem pss_imp {e : List Stmt} {t t' : TS} (h : PSs X e t) (f : ∀ T σ H, t' T σ H → t T σ H) : PSs X e t' := ⟨fun pins s σ H T I q => h.run pins s σ H T I (f T σ H q)⟩
end

/-! ### names and constants -/
def eVar (i : Nat) : DE := fun _ δ S Q => match δ[i]? with
  | some (some d) => Q d S
  | _ => False
def eC (d : D) : DE := fun _ _ S Q => Q d S
section
variable {X : Cx}
theorem ie_var (i : Nat) {x : Str} {pos : Pos} (hN : X.N[i]? = some x := by rfl) (hv : Vis X.env.scope x := by first | exact Or.inl rfl | exact Or.inr (Or.inl rfl) | exact Or.inr (Or.inr rfl)) (hd : (x == ("__debug__" : Str)) = false := by decide)
    (hcd : (x == ("__classdict__" : Str)) = false := by decide) : IsE X (.Name x pos) (eVar i) := fun EX W _ => by
  refine pe_imp (pe_var hN hv hd hcd) fun σ H Q ⟨δ, S, Qd, rl, rs, h, q⟩ => ?_
  unfold eVar at h
  split at h
  · rename_i d e
    obtain ⟨v, e1, r⟩ := rl.get e
    exact ⟨v, e1, q d S v H h r rs (Kept.refl H)⟩
  · exact h.elim
theorem ie_c {e : Expr} {d : D} {v : V} (h : PE X e (tC v)) (r : ∀ H, Rep X.K H d v) : IsE X e (eC d) := fun EX W _ =>
  pe_imp h fun σ H Q ⟨δ, S, Qd, rl, rs, h, q⟩ => q d S v H h (r H) rs (Kept.refl H)
theorem ie_int {i : Int} {j : Nat} {pos : Pos} : IsE X (.Constant (.int i) j pos) (eC (.int i)) := ie_c pe_int fun _ => .int i
theorem ie_bl {b : Bool} {j : Nat} {pos : Pos} : IsE X (.Constant (.bool b) j pos) (eC (.bl b)) := ie_c pe_bl fun _ => .bl b
theorem ie_non {j : Nat} {pos : Pos} : IsE X (.Constant .none j pos) (eC .non) := ie_c pe_non fun _ => .non
theorem ie_str {x : Str} {j : Nat} {pos : Pos} : IsE X (.Constant (.str x) j pos) (eC (.str x)) := ie_c pe_str fun _ => .str x
end

/-! ### operations on values -/
abbrev DOp2 := D → D → Sto → DK → Prop
abbrev DOp1 := D → Sto → DK → Prop
/-- r (the layer's reading) follows from o -/
def Low2 (K : PySem.W.Frag) (r : R2) (o : DOp2) : Prop := ∀ (H : Hp) (S : Sto) (x y : D) (v w : V) (Q : VK) (Qd : DK), Rep K H x v → Rep K H y w → RelS K S H → o x y S Qd →
  (∀ d S' u H', Qd d S' → Rep K H' d u → RelS K S' H' → Kept H H' → Q u H') → r v w H Q
def IsOp2 (X : Cx) (f : Value → Value → Sem Value) (o : DOp2) : Prop := ∃ r, OpR X f r ∧ Low2 X.K r o
def Low1 (K : PySem.W.Frag) (r : V → Hp → VK → Prop) (o : DOp1) : Prop := ∀ (H : Hp) (S : Sto) (x : D) (v : V) (Q : VK) (Qd : DK), Rep K H x v → RelS K S H → o x S Qd →
  (∀ d S' u H', Qd d S' → Rep K H' d u → RelS K S' H' → Kept H H' → Q u H') → r v H Q
def IsOp1 (X : Cx) (f : Value → Sem Value) (o : DOp1) : Prop := ∃ r, UnR X f r ∧ Low1 X.K r o
def eBin (o : DOp2) (a b : DE) : DE := fun EX δ S Q => a EX δ S fun x S1 => b EX δ S1 fun y S2 => o x y S2 Q
def eUn (o : DOp1) (a : DE) : DE := fun EX δ S Q => a EX δ S fun x S1 => o x S1 Q
section
variable {X : Cx} {a b : Expr} {ta tb : DE} {pos : Pos}
theorem low_bin {K : PySem.W.Frag} {EX : EXK} {W : WX} {r : R2} {o : DOp2} (lo : Low2 K r o) : ∀ σ H Q, upE K EX W (eBin o ta tb) σ H Q → tOp r (upE K EX W ta) (upE K EX W tb) σ H Q := fun σ H Q ⟨δ, S, Qd, rl, rs, h, q⟩ =>
  ⟨δ, S, _, rl, rs, h, fun x S1 v H1 h1 rv rs1 k1 => ⟨δ, S1, _, rl.mono k1, rs1, h1, fun y S2 w H2 h2 rw rs2 k2 => lo H2 S2 x y v w Q Qd (rv.mono k2) rw rs2 h2 fun d S' u H' hq r' rs' k' => q d S' u H' hq r' rs' ((k1.trans k2).trans k')⟩⟩
theorem ie_bin {op : Operator} {o : DOp2} (ho : IsOp2 X (binaryOp op) o) (ha : IsE X a ta) (hb : IsE X b tb) : IsE X (.BinOp a op b pos) (eBin o ta tb) := fun EX W tk =>
  let ⟨_, hr, lo⟩ := ho
  pe_imp (pe_op hr (ha EX W tk) (hb EX W tk)) (low_bin lo)
theorem ie_un {op : UnaryOp} {o : DOp1} (ho : IsOp1 X (unaryOp op) o) (ha : IsE X a ta) : IsE X (.UnaryOp op a pos) (eUn o ta) := fun EX W tk =>
  let ⟨_, hr, lo⟩ := ho
  pe_imp (pe_un hr (ha EX W tk)) fun σ H Q ⟨δ, S, Qd, rl, rs, h, q⟩ =>
    ⟨δ, S, _, rl, rs, h, fun x S1 v H1 h1 rv rs1 k1 => lo H1 S1 x v Q Qd rv rs1 h1 fun d S' u H' hq r' rs' k' => q d S' u H' hq r' rs' (k1.trans k')⟩
theorem ie_cmp {op : CmpOp} {o : DOp2} (ho : IsOp2 X (compareOp op) o) (ha : IsE X a ta) (hb : IsE X b tb) (hm : behindInMarks op b = false := by first | exact nomark _ | rfl) : IsE X (.Compare a [op] [b] pos) (eBin o ta tb) := fun EX W tk =>
  let ⟨_, hr, lo⟩ := ho
  pe_imp (pe_cmpR hr (ha EX W tk) (hb EX W tk) hm) (low_bin lo)
/-- a value's truth, known -/
def cBl (d : D) (S : Sto) (Q : Bool → Sto → Prop) : Prop := match d with
  | .bl b => Q b S
  | _ => False
def tVal (a : DE) : DT := fun EX δ S Q => a EX δ S fun d S1 => cBl d S1 Q
theorem low_val {K : PySem.W.Frag} {EX : EXK} : ∀ σ H Q, upT K EX W (tVal ta) σ H Q → upE K EX W ta σ H fun x H' => ∃ k, x = .bl k ∧ Q k H' := fun σ H Q ⟨δ, S, Qd, rl, rs, h, q⟩ =>
  ⟨δ, S, _, rl, rs, h, fun x S1 v H1 h1 rv rs1 k1 => by
    cases rv with
    | bl b => exact ⟨b, rfl, q b S1 H1 h1 rs1 k1⟩
    | _ => exact (show False from h1).elim⟩
theorem it_val (ha : IsE X a ta) (he : ∀ whole, isTrue a X.env whole = (do let v ← whole; standAt a.pos; holding [v] (truthy v)) := by intro _; rfl) : IsT X a (tVal ta) := fun EX W tk =>
  pt_imp (pt_val (ha EX W tk) he) fun σ H Q h => low_val σ H Q h
theorem it_cmp {op : CmpOp} {o : DOp2} (ho : IsOp2 X (compareOp op) o) (ha : IsE X a ta) (hb : IsE X b tb) (hm : behindInMarks op b = false := by first | exact nomark _ | rfl) : IsT X (.Compare a [op] [b] pos) (tVal (eBin o ta tb)) := fun EX W tk =>
  let ⟨_, hr, lo⟩ := ho
  pt_imp (pt_cmpR hr (ha EX W tk) (hb EX W tk) hm) fun σ H Q h => low_bin lo σ H _ (low_val σ H Q h)
end

/-! ### and, or, not; if as an expression -/
def tAndD (t u : DT) : DT := fun EX δ S Q => t EX δ S fun c S1 => if c = true then u EX δ S1 Q else Q false S1
def tOrD (t u : DT) : DT := fun EX δ S Q => t EX δ S fun c S1 => if c = true then Q true S1 else u EX δ S1 Q
def tNotD (t : DT) : DT := fun EX δ S Q => t EX δ S fun c S1 => Q (!c) S1
def eAndV (a b : DE) : DE := fun EX δ S Q => a EX δ S fun x S1 => cBl x S1 fun c S2 => if c = true then b EX δ S2 Q else Q (.bl false) S2
def eOrV (a b : DE) : DE := fun EX δ S Q => a EX δ S fun x S1 => cBl x S1 fun c S2 => if c = true then Q (.bl true) S2 else b EX δ S2 Q
def eNotV (a : DE) : DE := fun EX δ S Q => a EX δ S fun x S1 => cBl x S1 fun c S2 => Q (.bl (!c)) S2
def eIf (c : DT) (a b : DE) : DE := fun EX δ S Q => c EX δ S fun k S1 => if k = true then a EX δ S1 Q else b EX δ S1 Q
section
variable {X : Cx} {a b c : Expr} {rest : List Expr} {ta tb : DE} {t u : DT} {pos : Pos}
theorem iw_and1 (h : IsT X a t) : IsW X (.BoolOp .And [a] pos) t := fun EX W tk => pw_and1 (h EX W tk)
theorem iw_or1 (h : IsT X a t) : IsW X (.BoolOp .Or [a] pos) t := fun EX W tk => pw_or1 (h EX W tk)
theorem iw_and (h : IsT X a t) (h2 : IsW X (.BoolOp .And (b :: rest) pos) u) : IsW X (.BoolOp .And (a :: b :: rest) pos) (tAndD t u) := fun EX W tk =>
  pw_imp (pw_and (h EX W tk) (h2 EX W tk)) fun σ H Q ⟨δ, S, Qd, rl, rs, h, q⟩ => ⟨δ, S, _, rl, rs, h, fun k S1 H1 h1 rs1 k1 => by
    cases k with
    | true => exact ⟨δ, S1, Qd, rl.mono k1, rs1, h1, fun b S' H' hb rs' k' => q b S' H' hb rs' (k1.trans k')⟩
    | false => exact q false S1 H1 h1 rs1 k1⟩
theorem iw_or (h : IsT X a t) (h2 : IsW X (.BoolOp .Or (b :: rest) pos) u) : IsW X (.BoolOp .Or (a :: b :: rest) pos) (tOrD t u) := fun EX W tk =>
  pw_imp (pw_or (h EX W tk) (h2 EX W tk)) fun σ H Q ⟨δ, S, Qd, rl, rs, h, q⟩ => ⟨δ, S, _, rl, rs, h, fun k S1 H1 h1 rs1 k1 => by
    cases k with
    | false => exact ⟨δ, S1, Qd, rl.mono k1, rs1, h1, fun b S' H' hb rs' k' => q b S' H' hb rs' (k1.trans k')⟩
    | true => exact q true S1 H1 h1 rs1 k1⟩
theorem it_w (h : IsW X a t) : IsT X a t := fun EX W tk => (h EX W tk).pt
theorem it_not (h : IsT X a t) : IsT X (.UnaryOp .Not a pos) (tNotD t) := fun EX W tk =>
  pt_imp (pt_not (h EX W tk)) fun σ H Q ⟨δ, S, Qd, rl, rs, h, q⟩ => ⟨δ, S, _, rl, rs, h, fun k S1 H1 h1 rs1 k1 => q (!k) S1 H1 h1 rs1 k1⟩
end
end DL
end L2

/-! DLb: values of and, or, not; argument lists; statements; loops; the calls of defs. -/
namespace L2
namespace DL
open PySem PySem.Spec PyProof.Rows
section
variable {X : Cx} {a b c : Expr} {rest : List Expr} {ta tb : DE} {t u : DT} {pos : Pos}
theorem ie_one {op : BoolOp} (h : IsE X a ta) : IsE X (.BoolOp op [a] pos) ta := fun EX W tk => pe_one (h EX W tk)
theorem low_bl {K : PySem.W.Frag} {H : Hp} {d : D} {v : V} {S : Sto} {Q : Bool → Sto → Prop} (r : Rep K H d v) (h : cBl d S Q) : ∃ c, d = .bl c ∧ v = .bl c ∧ Q c S := by
  cases r with
  | bl b => exact ⟨b, rfl, rfl, h⟩
  | _ => exact (show False from h).elim
theorem ie_and (ha : IsE X a ta) (hb : IsE X (.BoolOp .And (b :: rest) pos) tb) : IsE X (.BoolOp .And (a :: b :: rest) pos) (eAndV ta tb) := fun EX W tk =>
  pe_imp (pe_and (ha EX W tk) (hb EX W tk)) fun σ H Q ⟨δ, S, Qd, rl, rs, h, q⟩ => ⟨δ, S, _, rl, rs, h, fun x S1 v H1 h1 rv rs1 k1 => by
    obtain ⟨c, _, rfl, h2⟩ := low_bl rv h1
    refine ⟨c, rfl, ?_⟩
    cases c with
    | true => exact ⟨δ, S1, Qd, rl.mono k1, rs1, h2, fun d S' u H' hq r' rs' k' => q d S' u H' hq r' rs' (k1.trans k')⟩
    | false => exact q _ S1 _ H1 h2 (.bl false) rs1 k1⟩
theorem ie_or (ha : IsE X a ta) (hb : IsE X (.BoolOp .Or (b :: rest) pos) tb) : IsE X (.BoolOp .Or (a :: b :: rest) pos) (eOrV ta tb) := fun EX W tk =>
  pe_imp (pe_or (ha EX W tk) (hb EX W tk)) fun σ H Q ⟨δ, S, Qd, rl, rs, h, q⟩ => ⟨δ, S, _, rl, rs, h, fun x S1 v H1 h1 rv rs1 k1 => by
    obtain ⟨c, _, rfl, h2⟩ := low_bl rv h1
    refine ⟨c, rfl, ?_⟩
    cases c with
    | false => exact ⟨δ, S1, Qd, rl.mono k1, rs1, h2, fun d S' u H' hq r' rs' k' => q d S' u H' hq r' rs' (k1.trans k')⟩
    | true => exact q _ S1 _ H1 h2 (.bl true) rs1 k1⟩
theorem ie_not (ha : IsE X a ta) : IsE X (.UnaryOp .Not a pos) (eNotV ta) := fun EX W tk =>
  pe_imp (pe_not (ha EX W tk)) fun σ H Q ⟨δ, S, Qd, rl, rs, h, q⟩ => ⟨δ, S, _, rl, rs, h, fun x S1 v H1 h1 rv rs1 k1 => by
    obtain ⟨c, _, rfl, h2⟩ := low_bl rv h1
    exact ⟨c, rfl, q _ S1 _ H1 h2 (.bl _) rs1 k1⟩⟩
theorem ie_if (hc : IsT X c t) (ha : IsE X a ta) (hb : IsE X b tb) : IsE X (.IfExp c a b pos) (eIf t ta tb) := fun EX W tk =>
  pe_imp (pe_ifExp (hc EX W tk) (ha EX W tk) (hb EX W tk)) fun σ H Q ⟨δ, S, Qd, rl, rs, h, q⟩ => ⟨δ, S, _, rl, rs, h, fun k S1 H1 h1 rs1 k1 => by
    cases k with
    | true => exact ⟨δ, S1, Qd, rl.mono k1, rs1, h1, fun d S' u H' hq r' rs' k' => q d S' u H' hq r' rs' (k1.trans k')⟩
    | false => exact ⟨δ, S1, Qd, rl.mono k1, rs1, h1, fun d S' u H' hq r' rs' k' => q d S' u H' hq r' rs' (k1.trans k')⟩⟩
end

/-! ### argument lists, displays -/
def aNil : DA := fun _ _ S Q => Q [] S
def aCons (a : DE) (r : DA) : DA := fun EX δ S Q => a EX δ S fun x S1 => r EX δ S1 fun xs S2 => Q (x :: xs) S2
def eTup (a : DA) : DE := fun EX δ S Q => a EX δ S fun xs S1 => xs.length ≤ sizeLine ∧ Q (.tup xs) S1
def eLst (a : DA) : DE := fun EX δ S Q => a EX δ S fun xs S1 => xs.length ≤ sizeLine ∧ ∀ p, S1 p = none → Q (.ref p) (sup S1 p (.lst xs))
section
variable {X : Cx} {e : Expr} {es : List Expr} {te : DE} {t : DA} {pos : Pos}
theorem ia_nil : IsA X [] aNil := fun EX W tk => pa_imp pa_nil fun σ H Q ⟨δ, S, Qd, rl, rs, h, q⟩ => q [] S [] H h .nil rs (Kept.refl H)
theorem ia_cons (ha : IsE X e te) (hr : IsA X es t) (hs : starEach (e :: es) X.env = (false, eval e X.env) :: starEach es X.env := by rfl) : IsA X (e :: es) (aCons te t) := fun EX W tk =>
  pa_imp (pa_cons (ha EX W tk) (hr EX W tk) hs) fun σ H Q ⟨δ, S, Qd, rl, rs, h, q⟩ => ⟨δ, S, _, rl, rs, h, fun x S1 v H1 h1 rv rs1 k1 => ⟨δ, S1, _, rl.mono k1, rs1, h1, fun xs S2 vs H2 h2 rvs rs2 k2 =>
    q (x :: xs) S2 (v :: vs) H2 h2 (.cons (rv.mono k2) rvs) rs2 (k1.trans k2)⟩⟩
theorem ie_tup {x1 : Nat} (h : IsA X es t) : IsE X (.Tuple es x1 pos) (eTup t) := fun EX W tk =>
  pe_imp (pe_tup (h EX W tk)) fun σ H Q ⟨δ, S, Qd, rl, rs, h, q⟩ => ⟨δ, S, _, rl, rs, h, fun xs S1 vs H1 ⟨hz, h1⟩ rv rs1 k1 => ⟨by rw [rv.len]; exact hz, fun p np =>
    q _ S1 _ _ h1 (.tup (SqT.of upd_same) (rv.mono (Kept.new np))) (rs1.newT np) (k1.trans (Kept.new np))⟩⟩
theorem ie_lst (h : IsA X es t) : IsE X (.List es pos) (eLst t) := fun EX W tk =>
  pe_imp (pe_lst (h EX W tk)) fun σ H Q ⟨δ, S, Qd, rl, rs, h, q⟩ => ⟨δ, S, _, rl, rs, h, fun xs S1 vs H1 ⟨hz, h1⟩ rv rs1 k1 => ⟨by rw [rv.len]; exact hz, fun p np =>
    q _ _ _ _ (h1 p (rs1.fresh np)) (.ref p) (rs1.newL np rv) (k1.trans (Kept.new np))⟩⟩
end

/-! ### built-ins by name -/
abbrev DCall := List D → Sto → DK → Prop
def LowC (K : PySem.W.Frag) (r : List V → Hp → VK → Prop) (o : DCall) : Prop := ∀ (H : Hp) (S : Sto) (xs : List D) (vs : List V) (Q : VK) (Qd : DK), Reps K H xs vs → RelS K S H → o xs S Qd →
  (∀ d S' u H', Qd d S' → Rep K H' d u → RelS K S' H' → Kept H H' → Q u H') → r vs H Q
def IsCall (X : Cx) (f : Value) (o : DCall) : Prop := ∃ r, CallR X f r ∧ LowC X.K r o
def eB (o : DCall) (t : DA) : DE := fun EX δ S Q => t EX δ S fun xs S1 => o xs S1 Q
section
variable {X : Cx} {x : Str} {e : Expr} {es : List Expr} {t : DA} {o : DCall} {p pos : Pos} {id : String}
theorem low_call {K : PySem.W.Frag} {EX : EXK} {W : WX} {r : List V → Hp → VK → Prop} (lo : LowC K r o) : ∀ σ H Q, upE K EX W (eB o t) σ H Q → tCB r (upA K EX W t) σ H Q := fun σ H Q ⟨δ, S, Qd, rl, rs, h, q⟩ =>
  ⟨δ, S, _, rl, rs, h, fun xs S1 vs H1 h1 rv rs1 k1 => lo H1 S1 xs vs Q Qd rv rs1 h1 fun d S' u H' hq r' rs' k' => q d S' u H' hq r' rs' (k1.trans k')⟩
theorem ie_callB (hc : IsCall X (.builtin id) o) (hm : X.mg x = none) (ha : IsA X (e :: es) t) (hg : Gl X x := by rfl) (hv : bootBuiltins x = some (.builtin id) := by decide +kernel) (hn : x ≠ "__name__" := by decide) (hdb : (x == ("__debug__" : Str)) = false := by decide)
    (he : starEach (e :: es) X.env = (false, eval e X.env) :: starEach es X.env := by rfl) (hpl : (backTo pos (starEach es X.env)).any (·.1) = false := by rfl) : IsE X (.Call (.Name x p) (e :: es) [] pos) (eB o t) := fun EX W tk =>
  let ⟨_, hr, lo⟩ := hc
  pe_imp (pe_callB hr hg hm hv (ha EX W tk) hn hdb he hpl) (low_call lo)
theorem ie_callTy (hc : IsCall X (.type id) o) (hm : X.mg x = none) (ha : IsA X (e :: es) t) (hg : Gl X x := by rfl) (hv : bootBuiltins x = some (.type id) := by decide +kernel) (hn : x ≠ "__name__" := by decide) (hdb : (x == ("__debug__" : Str)) = false := by decide)
    (he : starEach (e :: es) X.env = (false, eval e X.env) :: starEach es X.env := by rfl) (hpl : (backTo pos (starEach es X.env)).any (·.1) = false := by rfl) : IsE X (.Call (.Name x p) (e :: es) [] pos) (eB o t) := fun EX W tk =>
  let ⟨_, hr, lo⟩ := hc
  pe_imp (pe_callTy hr hg hm hv (ha EX W tk) hn hdb he hpl) (low_call lo)
end

/-! ### statements -/
def sNext : DS := fun _ T δ S => T.nx δ S
def sSeq (t u : DS) : DS := fun EX T δ S => t EX { T with nx := fun δ' S' => u EX T δ' S' } δ S
def sRet (e : DE) : DS := fun EX T δ S => e EX δ S T.rt
def sRetN : DS := fun _ T _ S => T.rt .non S
def sDrop (e : DE) : DS := fun EX T δ S => e EX δ S fun _ S1 => T.nx δ S1
def sIf (c : DT) (t u : DS) : DS := fun EX T δ S => c EX δ S fun k S1 => if k = true then t EX T δ S1 else u EX T δ S1
def sSet (i : Nat) (e : DE) : DS := fun EX T δ S => e EX δ S fun d S1 => T.nx (δ.set i (some d)) S1
def sPar (i j : Nat) (a b : DE) : DS := fun EX T δ S => a EX δ S fun x S1 => b EX δ S1 fun y S2 => T.nx ((δ.set i (some x)).set j (some y)) S2
def sNever : DS := fun _ _ _ _ => False
section
variable {X : Cx} {st : Stmt} {rest : List Stmt} {t u : DS} {e c : Expr} {te : DE} {tc : DT} {pos : Pos}
theorem ib_nil : IsB X [] sNext := fun EX W tk => pss_imp pss_nil fun T σ H ⟨δ, S, Dd, rl, rs, h, U⟩ => U.nx δ S σ H h rl rs (Kept.refl H)
theorem ib_cons (h1 : IsS X st t) (h2 : IsB X rest u) : IsB X (st :: rest) (sSeq t u) := fun EX W tk =>
  pss_imp (pss_cons (h1 EX W tk) (h2 EX W tk)) fun T σ H ⟨δ, S, Dd, rl, rs, h, U⟩ => ⟨δ, S, _, rl, rs, h, ⟨fun δ' S' σ' H' hq rl' rs' k' => ⟨δ', S', Dd, rl', rs', hq, U.mono k'⟩, U.bk, U.ct, U.rt⟩⟩
theorem ib_one (h1 : IsS X st t) : IsB X [st] t := fun EX W tk => pss_one (h1 EX W tk)
theorem ib_never {sts : List Stmt} : IsB X sts sNever := fun EX W tk => pss_imp pss_never fun T σ H ⟨δ, S, Dd, rl, rs, h, U⟩ => (show False from h).elim
theorem is_pass : IsS X (.Pass pos) sNext := fun EX W tk => ps_imp ps_pass fun T σ H ⟨δ, S, Dd, rl, rs, h, U⟩ => U.nx δ S σ H h rl rs (Kept.refl H)
def sBreak : DS := fun _ T δ S => T.bk δ S
def sCont : DS := fun _ T δ S => T.ct δ S
theorem is_break : IsS X (.Break pos) sBreak := fun EX W tk => ps_imp ps_break fun T σ H ⟨δ, S, Dd, rl, rs, h, U⟩ => U.bk δ S σ H h rl rs (Kept.refl H)
theorem is_cont : IsS X (.Continue pos) sCont := fun EX W tk => ps_imp ps_continue fun T σ H ⟨δ, S, Dd, rl, rs, h, U⟩ => U.ct δ S σ H h rl rs (Kept.refl H)
theorem is_doc {x : Str} {j : Nat} {pos' : Pos} : IsS X (.Expr (.Constant (.str x) j pos) pos') sNext := fun EX W tk => ps_imp ps_doc fun T σ H ⟨δ, S, Dd, rl, rs, h, U⟩ => U.nx δ S σ H h rl rs (Kept.refl H)
theorem is_expr (he : IsE X e te) (hs : swapsWith e none pos.line X.env = pure false := by rfl) : IsS X (.Expr e pos) (sDrop te) := fun EX W tk =>
  ps_imp (ps_expr (he EX W tk) hs) fun T σ H ⟨δ, S, Dd, rl, rs, h, U⟩ => ⟨δ, S, _, rl, rs, h, fun d S1 v H1 h1 rv rs1 k1 => U.nx δ S1 σ H1 h1 (rl.mono k1) rs1 k1⟩
theorem is_ret (he : IsE X e te) : IsS X (.Return (some e) pos) (sRet te) := fun EX W tk =>
  ps_imp (ps_ret (he EX W tk)) fun T σ H ⟨δ, S, Dd, rl, rs, h, U⟩ => ⟨δ, S, _, rl, rs, h, fun d S1 v H1 h1 rv rs1 k1 => U.rt d S1 v H1 h1 rv rs1 k1⟩
theorem is_retN : IsS X (.Return none pos) sRetN := fun EX W tk =>
  ps_imp ps_retN fun T σ H ⟨δ, S, Dd, rl, rs, h, U⟩ => U.rt .non S .non H h .non rs (Kept.refl H)
theorem is_if {a b : List Stmt} (hc : IsT X c tc) (ha : IsB X a t) (hb : IsB X b u) : IsS X (.If c a b pos) (sIf tc t u) := fun EX W tk =>
  ps_imp (ps_if (hc EX W tk) (ha EX W tk) (hb EX W tk)) fun T σ H ⟨δ, S, Dd, rl, rs, h, U⟩ => ⟨δ, S, _, rl, rs, h, fun k S1 H1 h1 rs1 k1 => by
    cases k with
    | true => exact ⟨δ, S1, Dd, rl.mono k1, rs1, h1, U.mono k1⟩
    | false => exact ⟨δ, S1, Dd, rl.mono k1, rs1, h1, U.mono k1⟩⟩
theorem is_set (i : Nat) {x : Str} {pos' : Pos} (hN : X.N.Nodup) (he : IsE X e te) (hi : X.N[i]? = some x := by rfl) (hx : Loc X.env.scope x := by first | exact Or.inl rfl | exact Or.inr rfl) (hs : swapsWith e (some (.Name x pos')) pos.line X.env = pure false := by rfl)
    (hf : X.fn x = true ∨ X.env.scope.names.lookup x = some .local := by first | exact .inl rfl | exact .inr rfl | assumption) : IsS X (.Assign [.Name x pos'] e pos) (sSet i te) := fun EX W tk =>
  ps_imp (ps_set hN hi hx (he EX W tk) hs hf) fun T σ H ⟨δ, S, Dd, rl, rs, h, U⟩ => ⟨δ, S, _, rl, rs, h, fun d S1 v H1 h1 rv rs1 k1 => U.nx _ S1 _ H1 h1 ((rl.mono k1).set rv i) rs1 k1⟩
theorem is_par (i j : Nat) {x y : Str} {a b : Expr} {ta tb : DE} {px py pt : Pos} {kt k2 : Nat} {pt2 : Pos} (hc : X.calm = true) (hN : X.N.Nodup) (ha : IsE X a ta) (hb : IsE X b tb)
    (hi : X.N[i]? = some x := by rfl) (hj : X.N[j]? = some y := by rfl) (hij : i ≠ j := by decide) (hx : X.env.scope.names.lookup x = some .local := by rfl) (hy : X.env.scope.names.lookup y = some .local := by rfl)
    (hs1 : starEach [a, b] X.env = (false, eval a X.env) :: starEach [b] X.env := by rfl) (hs2 : starEach [b] X.env = (false, eval b X.env) :: starEach [] X.env := by rfl)
    (hw : swappedStores [.Tuple [.Name x px, .Name y py] kt pt] (.Tuple [a, b] k2 pt2) X.env = pure (some [x, y]) := by rfl)
    (hs : swapsWithSole [.Tuple [.Name x px, .Name y py] kt pt] (.Tuple [a, b] k2 pt2) pos.line X.env = pure false := by rfl) :
    IsS X (.Assign [.Tuple [.Name x px, .Name y py] kt pt] (.Tuple [a, b] k2 pt2) pos) (sPar i j ta tb) := fun EX W tk =>
  ps_imp (ps_par hc hN hi hj hij hx hy (pa_cons (ha EX W tk) (pa_cons (hb EX W tk) pa_nil hs2) hs1) hw hs) fun T σ H ⟨δ, S, Dd, rl, rs, h, U⟩ =>
    ⟨δ, S, _, rl, rs, h, fun d S1 v H1 h1 rv rs1 k1 => ⟨δ, S1, _, rl.mono k1, rs1, h1, fun d2 S2 v2 H2 h2 rv2 rs2 k2 => ⟨v, v2, rfl, U.nx _ S2 _ H2 h2 ((((rl.mono k1).mono k2).set (rv.mono k2) i).set rv2 j) rs2 (k1.trans k2)⟩⟩⟩
end

/-! ### targets -/
abbrev DG := D → EXK → DSt → Sto → (DSt → Sto → Prop) → Prop
abbrev DGs := List D → EXK → DSt → Sto → (DSt → Sto → Prop) → Prop
def upG (K : PySem.W.Frag) (EX : EXK) (W : WX) (g : DG) : TG := fun v σ H Q => ∃ δ S d Qd, RepL K EX W H δ σ ∧ RelS K S H ∧ Rep K H d v ∧ g d EX δ S Qd ∧ ∀ δ' S' σ' H', Qd δ' S' → RepL K EX W H' δ' σ' → RelS K S' H' → Kept H H' → Q σ' H'
def upGs (K : PySem.W.Frag) (EX : EXK) (W : WX) (g : DGs) : TGs := fun vs σ H Q => ∃ δ S ds Qd, RepL K EX W H δ σ ∧ RelS K S H ∧ Reps K H ds vs ∧ g ds EX δ S Qd ∧ ∀ δ' S' σ' H', Qd δ' S' → RepL K EX W H' δ' σ' → RelS K S' H' → Kept H H' → Q σ' H'
def IsG (X : Cx) (tg : Expr) (g : DG) : Prop := ∀ EX W, Takes X W → PG X tg (upG X.K EX W g)
def IsGs (X : Cx) (tg : List Expr) (g : DGs) : Prop := ∀ EX W, Takes X W → PGs X tg (upGs X.K EX W g)
def dName (i : Nat) : DG := fun d _ δ S Q => Q (δ.set i (some d)) S
def dNil : DGs := fun ds _ δ S Q => match ds with
  | [] => Q δ S
  | _ :: _ => False
def dCons (g : DG) (r : DGs) : DGs := fun ds EX δ S Q => match ds with
  | [] => False
  | d :: ds => g d EX δ S fun δ' S' => r ds EX δ' S' Q
/-- a tuple or a list, taken apart -/
def dTup (n : Nat) (r : DGs) : DG := fun d EX δ S Q => match d with
  | .tup ds => ds.length = n ∧ r ds EX δ S Q
  | _ => False
def rdL (S : Sto) (a : Addr) (ds : List D) : Prop := S a = some (.lst ds) ∨ S a = some (.ro ds)
def dLst (n : Nat) (r : DGs) : DG := fun d EX δ S Q => match d with
  | .ref a => ∃ ds, rdL S a ds ∧ ds.length = n ∧ r ds EX δ S Q
  | _ => False
theorem RelS.rd {K : PySem.W.Frag} {S : Sto} {H : Hp} {a : Addr} {ds : List D} (r : RelS K S H) (h : rdL S a ds) : ∃ xs, SqL K H a xs ∧ Reps K H ds xs := by
  rcases h with h | h
  · obtain ⟨xs, e, q⟩ := r a _ h
    exact ⟨xs, SqL.of e, q⟩
  · obtain ⟨xs, e, q⟩ := r a _ h
    exact ⟨xs, .inl e, q⟩
section
variable {X : Cx} {pos : Pos}
theorem pg_imp {e : Expr} {t t' : TG} (h : PG X e t) (f : ∀ v σ H Q, t' v σ H Q → t v σ H Q) : PG X e t' := ⟨fun pins s σ H v u Q I r q => h.run pins s σ H v u Q I r (f v σ H Q q)⟩
theorem pgs_imp {e : List Expr} {t t' : TGs} (h : PGs X e t) (f : ∀ v σ H Q, t' v σ H Q → t v σ H Q) : PGs X e t' := ⟨fun pins s σ H v u Q I r q => h.run pins s σ H v u Q I r (f v σ H Q q)⟩
theorem ig_name (i : Nat) {x : Str} (hN : X.N.Nodup) (hi : X.N[i]? = some x := by rfl) (hx : Loc X.env.scope x := by first | exact Or.inl rfl | exact Or.inr rfl) (hf : X.fn x = true ∨ X.env.scope.names.lookup x = some .local := by first | exact .inl rfl | exact .inr rfl | assumption) : IsG X (.Name x pos) (dName i) := fun EX W tk =>
  pg_imp (pg_name hN hi hx hf) fun v σ H Q ⟨δ, S, d, Qd, rl, rs, r, h, q⟩ => q _ S _ H h (rl.set r i) rs (Kept.refl H)
theorem igs_nil : IsGs X [] dNil := fun EX W tk =>
  pgs_imp pgs_nil fun vs σ H Q ⟨δ, S, ds, Qd, rl, rs, r, h, q⟩ => by
    cases r with
    | nil => exact ⟨rfl, q _ S _ H h rl rs (Kept.refl H)⟩
    | cons _ _ => exact (show False from h).elim
theorem igs_cons {e : Expr} {es : List Expr} {t : DG} {u : DGs} (h1 : IsG X e t) (h2 : IsGs X es u)
    (hs : (assignEach (e :: es) X.env).map (·.2) = assign e X.env :: (assignEach es X.env).map (·.2) := by rfl) : IsGs X (e :: es) (dCons t u) := fun EX W tk =>
  pgs_imp (pgs_cons (h1 EX W tk) (h2 EX W tk) hs) fun vs σ H Q ⟨δ, S, ds, Qd, rl, rs, r, h, q⟩ => by
    cases r with
    | nil => exact (show False from h).elim
    | cons r rr => exact ⟨_, _, rfl, δ, S, _, _, rl, rs, r, h, fun δ' S' σ' H' h' rl' rs' k' => ⟨δ', S', _, Qd, rl', rs', rr.mono k', h', fun δ2 S2 σ2 H2 hq rl2 rs2 k2 => q δ2 S2 σ2 H2 hq rl2 rs2 (k'.trans k2)⟩⟩
theorem ig_tup {es : List Expr} {k : Nat} {t : DGs} {n : Nat} (hc : X.calm = true) (h : IsGs X es t)
    (hn : (assignEach es X.env).length = n := by rfl) (hst : (assignEach es X.env).findIdx? (·.1) = none := by rfl) : IsG X (.Tuple es k pos) (dTup n t) := fun EX W tk =>
  pg_imp (pg_tup hc (h EX W tk) hn hst) fun v σ H Q ⟨δ, S, d, Qd, rl, rs, r, h, q⟩ => by
    cases r with
    | tup hs rr => exact ⟨_, _, rfl, hs, rr.len.trans h.1, δ, S, _, Qd, rl, rs, rr, h.2, q⟩
    | _ => exact (show False from h).elim
theorem ig_lst {es : List Expr} {k : Nat} {t : DGs} {n : Nat} (hc : X.calm = true) (h : IsGs X es t)
    (hn : (assignEach es X.env).length = n := by rfl) (hst : (assignEach es X.env).findIdx? (·.1) = none := by rfl) : IsG X (.Tuple es k pos) (dLst n t) := fun EX W tk =>
  pg_imp (pg_lst hc (h EX W tk) hn hst) fun v σ H Q ⟨δ, S, d, Qd, rl, rs, r, h, q⟩ => by
    cases r with
    | ref a =>
      obtain ⟨ds, hr, hl, h⟩ := h
      obtain ⟨xs, sq, rr⟩ := rs.rd hr
      exact ⟨_, _, rfl, sq, rr.len.trans hl, δ, S, _, Qd, rl, rs, rr, h, q⟩
    | _ => exact (show False from h).elim
end
def sAsg (e : DE) (g : DG) : DS := fun EX T δ S => e EX δ S fun d S1 => g d EX δ S1 T.nx
section
variable {X : Cx} {tg e : Expr} {te : DE} {g : DG} {pos : Pos}
theorem is_asg (he : IsE X e te) (hg : IsG X tg g) (hs : swapsWithSole [tg] e pos.line X.env = pure false := by rfl) (hw : swappedStores [tg] e X.env = pure none := by rfl)
    (h1 : (assignEach [tg] X.env).map (·.2) = [assign tg X.env] := by rfl) : IsS X (.Assign [tg] e pos) (sAsg te g) := fun EX W tk =>
  ps_imp (ps_asg (he EX W tk) (hg EX W tk) hs hw h1) fun T σ H ⟨δ, S, Dd, rl, rs, h, U⟩ => ⟨δ, S, _, rl, rs, h, fun d S1 v H1 h1 rv rs1 k1 =>
    ⟨δ, S1, d, Dd.nx, rl.mono k1, rs1, rv, h1, fun δ2 S2 σ2 H2 h2 rl2 rs2 k2 => U.nx δ2 S2 σ2 H2 h2 rl2 rs2 (k1.trans k2)⟩⟩
end
/-- xs[i] = v -/
abbrev DSet := D → D → D → Sto → (Sto → Prop) → Prop
def LowSet (K : PySem.W.Frag) (r : TSet) (o : DSet) : Prop := ∀ (H : Hp) (S : Sto) (x y z : D) (v w u : V) (Q : Hp → Prop) (Qd : Sto → Prop), Rep K H x v → Rep K H y w → Rep K H z u → RelS K S H → o x y z S Qd →
  (∀ S' H', Qd S' → RelS K S' H' → Kept H H' → Q H') → r v w u H Q
def IsSet (X : Cx) (o : DSet) : Prop := ∃ r, PSet X r ∧ LowSet X.K r o
def dSub (a b : DE) (o : DSet) : DG := fun d EX δ S Q => a EX δ S fun x S1 => b EX δ S1 fun y S2 => o x y d S2 fun S3 => Q δ S3
theorem ig_sub {X : Cx} {a b : Expr} {ta tb : DE} {o : DSet} {pos : Pos} (ha : IsE X a ta) (hb : IsE X b tb) (ho : IsSet X o)
    (hd : ∀ v, assign (.Subscript a b pos) X.env v = (do
      let ov ← holding [v] (eval a X.env)
      let iv ← holding [v, ov] (eval b X.env)
      standAt pos
      holding [v, ov, iv] (setItem ov iv v)
      release [v, ov, iv] []) := by intro _; rfl) : IsG X (.Subscript a b pos) (dSub ta tb o) := fun EX W tk =>
  let ⟨_, hr, lo⟩ := ho
  pg_imp (pg_sub (ha EX W tk) (hb EX W tk) hr hd) fun v σ H Q ⟨δ, S, d, Qd, rl, rs, r, h, q⟩ => ⟨δ, S, _, rl, rs, h, fun x S1 v1 H1 h1 r1 rs1 k1 => ⟨δ, S1, _, rl.mono k1, rs1, h1, fun y S2 v2 H2 h2 r2 rs2 k2 =>
    lo H2 S2 x y d v1 v2 v _ _ (r1.mono k2) r2 ((r.mono k1).mono k2) rs2 h2 fun S' H' hq rs' k' => q _ S' _ H' hq (((rl.mono k1).mono k2).mono k') rs' ((k1.trans k2).trans k')⟩⟩
/-- x op= e, x a name -/
def sAug (i : Nat) (o : DOp2) (e : DE) : DS := fun EX T δ S => match δ[i]? with
  | some (some x) => e EX δ S fun y S1 => o x y S1 fun z S2 => T.nx (δ.set i (some z)) S2
  | _ => False
theorem is_aug (i : Nat) {X : Cx} {x : Str} {e : Expr} {te : DE} {op : Operator} {o : DOp2} {pos pos' : Pos} (hN : X.N.Nodup) (ho : IsOp2 X (inplaceOp op) o) (he : IsE X e te) (hi : X.N[i]? = some x := by rfl) (hx : Loc X.env.scope x := by first | exact Or.inl rfl | exact Or.inr rfl)
    (hf : X.fn x = true ∨ X.env.scope.names.lookup x = some .local := by first | exact .inl rfl | exact .inr rfl | assumption) : IsS X (.AugAssign (.Name x pos') op e pos) (sAug i o te) := fun EX W tk => by
  obtain ⟨r, hr, lo⟩ := ho
  refine ps_imp (ps_aug (ti := fun x y H Q => r x y H Q) hN hi hx (he EX W tk) (fun pins s σ H x y v u Q I rx ry h => hr pins s σ H x y v u Q I rx ry h) hf) fun T σ H ⟨δ, S, Dd, rl, rs, h, U⟩ => ?_
  unfold sAug at h
  split at h
  · rename_i d e1
    obtain ⟨v, e2, rv⟩ := rl.get e1
    exact ⟨v, e2, δ, S, _, rl, rs, h, fun y S1 w H1 h1 rw rs1 k1 => lo H1 S1 d y v w _ _ (rv.mono k1) rw rs1 h1 fun z S2 u H2 h2 ru rs2 k2 => U.nx _ S2 _ H2 h2 (((rl.mono k1).mono k2).set ru i) rs2 (k1.trans k2)⟩
  · exact h.elim
end DL
end L2

/-! DLc: loops, comprehensions. -/
namespace L2
namespace DL
open PySem PySem.Spec PyProof.Rows

/-! ### while -/
def sWhile (c : DT) (b : DS) : DS := fun EX T δ S => ∃ W : Nat → DSt → Sto → Prop, (∃ m, W m δ S) ∧ ∀ m δ S, W m δ S →
  c EX δ S fun k S1 => if k = true then b EX { T with nx := fun δ' S' => ∃ m', m' < m ∧ W m' δ' S', ct := fun δ' S' => ∃ m', m' < m ∧ W m' δ' S', bk := T.nx } δ S1 else T.nx δ S1
theorem is_while {X : Cx} {c : Expr} {body : List Stmt} {tc : DT} {tb : DS} {pos : Pos} (hp : PassesOwn (model X.prog X.w) X.A X.env X.xe) (hc : IsT X c tc) (hb : IsB X body tb) : IsS X (.While c body [] pos) (sWhile tc tb) := fun EX W tk =>
  ps_imp (ps_while hp (hc EX W tk) (hb EX W tk)) fun T σ H ⟨δ, S, Dd, rl, rs, ⟨Wv, ⟨m0, w0⟩, turn⟩, U⟩ => by
    refine ⟨fun m σ' H' => ∃ δ' S', Wv m δ' S' ∧ RepL X.K EX W H' δ' σ' ∧ RelS X.K S' H' ∧ Kept H H', ⟨m0, δ, S, w0, rl, rs, Kept.refl H⟩, ?_⟩
    rintro m σ1 H1 ⟨δ1, S1, w1, rl1, rs1, k1⟩
    refine ⟨δ1, S1, _, rl1, rs1, turn m δ1 S1 w1, fun k S2 H2 h2 rs2 k2 => ?_⟩
    cases k with
    | false => exact U.nx δ1 S2 σ1 H2 h2 (rl1.mono k2) rs2 (k1.trans k2)
    | true =>
      have go : ∀ (δ3 : DSt) (S3 : Sto) (σ3 : St) (H3 : Hp), (∃ m', m' < m ∧ Wv m' δ3 S3) → RepL X.K EX W H3 δ3 σ3 → RelS X.K S3 H3 → Kept H2 H3 → ∃ m', m' < m ∧ ∃ δ' S', Wv m' δ' S' ∧ RepL X.K EX W H3 δ' σ3 ∧ RelS X.K S' H3 ∧ Kept H H3 := fun δ3 S3 σ3 H3 ⟨m', lt, w'⟩ rl3 rs3 k3 =>
        ⟨m', lt, δ3, S3, w', rl3, rs3, (k1.trans k2).trans k3⟩
      refine ⟨fun σ3 H3 => ∃ m', m' < m ∧ ∃ δ' S', Wv m' δ' S' ∧ RepL X.K EX W H3 δ' σ3 ∧ RelS X.K S' H3 ∧ Kept H H3, fun σ3 H3 q => q, δ1, S2, _, rl1.mono k2, rs2, h2, ⟨go, ?_, go, ?_⟩⟩
      · exact fun δ3 S3 σ3 H3 n3 rl3 rs3 k3 => U.nx δ3 S3 σ3 H3 n3 rl3 rs3 ((k1.trans k2).trans k3)
      · exact fun d S3 v H3 n3 r3 rs3 k3 => U.rt d S3 v H3 n3 r3 rs3 ((k1.trans k2).trans k3)

/-! ### what a loop walks -/
/-- the items ds come from J, where G holds of the store at each turn -/
structure DWalk (K : PySem.W.Frag) (H0 : Hp) (J : It) (G : Sto → Prop) (ds : List D) : Prop where
  ex : ∃ (g : Hp → Prop) (Y : Nat → Hp → V → Hp → Prop), Walk J ds.length g Y ∧ (∀ S H, RelS K S H → Kept H0 H → G S → g H) ∧
    ∀ i S H v H', i < ds.length → Y i H v H' → RelS K S H → Kept H0 H → G S → ∃ d, ds[i]? = some d ∧ Rep K H' d v ∧ RelS K S H' ∧ Kept H H'
abbrev DI := EXK → DSt → Sto → ((Sto → Prop) → List D → Sto → Prop) → Prop
def upI (K : PySem.W.Frag) (EX : EXK) (W : WX) (w : DI) : TI := fun σ H R => ∃ δ S Qd, RepL K EX W H δ σ ∧ RelS K S H ∧ w EX δ S Qd ∧ ∀ G ds S' J H', Qd G ds S' → DWalk K H' J G ds → RelS K S' H' → Kept H H' → R J H'
def IsI (X : Cx) (tg iter : Expr) (w : DI) : Prop := ∀ EX W, Takes X W → PI X tg iter (upI X.K EX W w)
theorem pi_imp {X : Cx} {tg iter : Expr} {t t' : TI} (h : PI X tg iter t) (f : ∀ σ H R, t' σ H R → t σ H R) : PI X tg iter t' := ⟨fun pins s σ H R I q => h.run pins s σ H R I (f σ H R q)⟩
/-- one after another -/
def sForIn (G : Sto → Prop) (g : DG) (b : DS) : List D → DS
  | [] => fun _ T δ S => G S ∧ T.nx δ S
  | x :: xs => fun EX T δ S => G S ∧ g x EX δ S fun δ1 S1 => b EX { T with nx := fun δ' S' => sForIn G g b xs EX T δ' S', ct := fun δ' S' => sForIn G g b xs EX T δ' S', bk := T.nx } δ1 S1
def sFor (w : DI) (g : DG) (b : DS) : DS := fun EX T δ S => w EX δ S fun G ds S1 => sForIn G g b ds EX T δ S1
theorem sForIn_guard {G : Sto → Prop} {g : DG} {b : DS} {EX : EXK} {T : DEnds} {δ : DSt} {S : Sto} : ∀ {ds : List D}, sForIn G g b ds EX T δ S → G S
  | [], h => h.1
  | _ :: _, h => h.1
theorem is_for {X : Cx} {tg iter : Expr} {body : List Stmt} {w : DI} {g : DG} {tb : DS} {pos : Pos} (hp : PassesOwn (model X.prog X.w) X.A X.env X.xe) (hc : X.calm = true) (hi : IsI X tg iter w) (hg : IsG X tg g) (hb : IsB X body tb)
    (hs : ∀ x, foldedSetIterable iter X.env x = pure x := by intro _; rfl) : IsS X (.For tg iter body [] pos) (sFor w g tb) := fun EX W tk =>
  ps_imp (ps_for hp hc (hi EX W tk) (hg EX W tk) (hb EX W tk) hs) fun T σ H ⟨δ, S, Dd, rl, rs, h, U⟩ => by
    refine ⟨δ, S, _, rl, rs, h, fun G ds S1 J H1 h1 ⟨gg, Y, wk, hG, hY⟩ rs1 k1 => ?_⟩
    refine for_it wk (fun i σ' H' => ∃ δ' S', sForIn G g tb (ds.drop i) EX Dd δ' S' ∧ RepL X.K EX W H' δ' σ' ∧ RelS X.K S' H' ∧ Kept H1 H') ⟨δ, S1, h1, rl.mono k1, rs1, Kept.refl H1⟩ ?_ ?_ ?_
    · rintro i σ' H' hi ⟨δ', S', q, rl', rs', k'⟩
      exact hG S' H' rs' k' (sForIn_guard q)
    · rintro i v σ2 H2 H3 hi ⟨δ2, S2, q, rl2, rs2, k2⟩ y
      have g2 := sForIn_guard q
      obtain ⟨d, e, r3, rs3, k3⟩ := hY i S2 H2 v H3 hi y rs2 k2 g2
      have hi' : i < ds.length := hi
      have ed : ds[i] = d := by
        rw [List.getElem?_eq_getElem hi'] at e
        exact Option.some.inj e
      rw [List.drop_eq_getElem_cons hi', ed] at q
      refine ⟨δ2, S2, d, _, rl2.mono k3, rs3, r3, q.2, fun δ4 S4 σ4 H4 h4 rl4 rs4 k4 => ⟨δ4, S4, _, rl4, rs4, h4, ?_⟩⟩
      have kk := (k2.trans k3).trans k4
      exact ⟨fun δ5 S5 σ5 H5 h5 rl5 rs5 k5 => ⟨δ5, S5, h5, rl5, rs5, kk.trans k5⟩, fun δ5 S5 σ5 H5 h5 rl5 rs5 k5 => U.nx δ5 S5 σ5 H5 h5 rl5 rs5 ((k1.trans kk).trans k5),
        fun δ5 S5 σ5 H5 h5 rl5 rs5 k5 => ⟨δ5, S5, h5, rl5, rs5, kk.trans k5⟩, fun d5 S5 v5 H5 h5 r5 rs5 k5 => U.rt d5 S5 v5 H5 h5 r5 rs5 ((k1.trans kk).trans k5)⟩
    · rintro σ2 H2 ⟨δ2, S2, q, rl2, rs2, k2⟩
      rw [List.drop_length] at q
      exact U.nx δ2 S2 σ2 H2 q.2 rl2 rs2 (k1.trans k2)

/-! ### what is walked -/
/-- a tuple or a list -/
def iSeq (a : DE) : DI := fun EX δ S R => a EX δ S fun x S1 => match x with
  | .tup ds => R (fun _ => True) ds S1
  | .ref p => ∃ ds, rdL S1 p ds ∧ R (fun S' => rdL S' p ds) ds S1
  | _ => False
def iTupD (a : DE) : DI := fun EX δ S R => a EX δ S fun x S1 => match x with
  | .tup ds => R (fun _ => True) ds S1
  | _ => False
def iLstD (a : DE) : DI := fun EX δ S R => a EX δ S fun x S1 => match x with
  | .ref p => ∃ ds, rdL S1 p ds ∧ R (fun S' => rdL S' p ds) ds S1
  | _ => False
theorem dwalk_tup {K : PySem.W.Frag} {H0 : Hp} {a : Addr} {ds : List D} {xs : List V} (h : SqT K H0 a xs) (r : Reps K H0 ds xs) : DWalk K H0 (Itt K a) (fun _ => True) ds := by
  refine ⟨fun H => SqT K H a xs, YAt xs, ?_, fun S H _ k _ => k.sqT h, ?_⟩
  · have w := walk_tup (K := K) (a := a) (xs := xs)
    rw [r.len] at w
    exact w
  · rintro i S H v H' hi ⟨rfl, e⟩ rs k _
    obtain ⟨d, e1, r1⟩ := r.get' e
    exact ⟨d, e1, r1.mono k, rs, Kept.refl _⟩
theorem dwalk_lst {K : PySem.W.Frag} {H0 : Hp} {a : Addr} {ds : List D} : DWalk K H0 (Itl K a) (fun S' => rdL S' a ds) ds := by
  refine ⟨fun H => ∃ xs, SqL K H a xs ∧ Reps K H ds xs, fun i H v H' => H' = H ∧ ∀ xs, SqL K H a xs → xs[i]? = some v, ⟨?_, ?_, ?_⟩, fun S H rs _ g => rs.rd g, ?_⟩
  · rintro i H hi ⟨xs, sq, r⟩
    have hl : i < xs.length := by rw [r.len]; exact hi
    exact ⟨xs, xs[i], sq, by simp [hl]⟩
  · rintro H ⟨xs, sq, r⟩
    exact ⟨xs, sq, by rw [r.len]; exact Nat.le_refl _⟩
  · rintro i H v H' hi _ y
    exact ⟨y.1, y.2⟩
  · rintro i S H v H' hi ⟨rfl, e⟩ rs k g
    obtain ⟨xs, sq, r⟩ := rs.rd g
    obtain ⟨d, e1, r1⟩ := r.get' (e xs sq)
    exact ⟨d, e1, r1, rs, Kept.refl _⟩
def irng (lo : Int) (n : Nat) : List D := (List.range n).map fun (i : Nat) => D.int (lo + (i : Int))
theorem dwalk_range {K : PySem.W.Frag} {H0 : Hp} {lo : Int} {n : Nat} : DWalk K H0 (Itr lo n) (fun _ => True) (irng lo n) := by
  have hl : (irng lo n).length = n := by simp [irng]
  refine ⟨fun _ => True, YFn fun i => .int (lo + i), ?_, fun _ _ _ _ _ => trivial, ?_⟩
  · rw [hl]; exact walk_range
  · rintro i S H v H' hi ⟨rfl, rfl⟩ rs k g
    rw [hl] at hi
    exact ⟨.int (lo + (i : Int)), by simp [irng, hi], .int _, rs, Kept.refl _⟩
def iRange1 (a : DA) : DI := fun EX δ S R => a EX δ S fun xs S1 => match xs with
  | [.int j] => -(2 ^ 62) ≤ j ∧ j < 2 ^ 62 ∧ R (fun _ => True) (irng 0 j.toNat) S1
  | _ => False
def iRange2 (a : DA) : DI := fun EX δ S R => a EX δ S fun xs S1 => match xs with
  | [.int i, .int j] => (-(2 ^ 62) ≤ i ∧ i < 2 ^ 62 ∧ -(2 ^ 62) ≤ j ∧ j < 2 ^ 62) ∧ R (fun _ => True) (irng i (j - i).toNat) S1
  | _ => False
section
variable {X : Cx} {tg e : Expr} {es : List Expr} {te : DE} {t : DA} {p pos : Pos}
theorem ii_tup (h : IsE X e te) : IsI X tg e (iTupD te) := fun EX W tk =>
  pi_imp (pi_tup (h EX W tk)) fun σ H R ⟨δ, S, Qd, rl, rs, h, q⟩ => ⟨δ, S, _, rl, rs, h, fun x S1 v H1 h1 rv rs1 k1 => by
    cases rv with
    | tup sq rr => exact ⟨_, rfl, ⟨_, sq⟩, q _ _ S1 _ H1 h1 (dwalk_tup sq rr) rs1 k1⟩
    | _ => exact (show False from h1).elim⟩
theorem ii_lst (h : IsE X e te) : IsI X tg e (iLstD te) := fun EX W tk =>
  pi_imp (pi_list (h EX W tk)) fun σ H R ⟨δ, S, Qd, rl, rs, h, q⟩ => ⟨δ, S, _, rl, rs, h, fun x S1 v H1 h1 rv rs1 k1 => by
    cases rv with
    | ref a =>
      obtain ⟨ds, hr, h2⟩ := h1
      obtain ⟨xs, sq, rr⟩ := rs1.rd hr
      exact ⟨_, rfl, ⟨_, sq⟩, q _ _ S1 _ H1 h2 dwalk_lst rs1 k1⟩
    | _ => exact (show False from h1).elim⟩
theorem ii_range1 (hm : X.mg "range" = none) (ha : IsA X [e] t) (hg : Gl X "range" := by rfl) (hs : starEach [e] X.env = [(false, eval e X.env)] := by rfl) : IsI X tg (.Call (.Name "range" p) [e] [] pos) (iRange1 t) := fun EX W tk =>
  pi_imp (pi_range1 hg hm (ha EX W tk) hs) fun σ H R ⟨δ, S, Qd, rl, rs, h, q⟩ => ⟨δ, S, _, rl, rs, h, fun xs S1 vs H1 h1 rv rs1 k1 => by
    split at h1
    · cases rv with
      | cons r rr => cases r; cases rr; exact ⟨_, rfl, h1.1, h1.2.1, q _ _ S1 _ H1 h1.2.2 dwalk_range rs1 k1⟩
    · exact h1.elim⟩
theorem ii_range2 {e2 : Expr} (hm : X.mg "range" = none) (ha : IsA X [e, e2] t) (hg : Gl X "range" := by rfl) (hs : starEach [e, e2] X.env = [(false, eval e X.env), (false, eval e2 X.env)] := by rfl) (hs2 : starEach [e2] X.env = [(false, eval e2 X.env)] := by rfl) :
    IsI X tg (.Call (.Name "range" p) [e, e2] [] pos) (iRange2 t) := fun EX W tk =>
  pi_imp (pi_range2 hg hm (ha EX W tk) hs hs2) fun σ H R ⟨δ, S, Qd, rl, rs, h, q⟩ => ⟨δ, S, _, rl, rs, h, fun xs S1 vs H1 h1 rv rs1 k1 => by
    split at h1
    · cases rv with
      | cons r rr =>
        cases r
        cases rr with
        | cons r rr => cases r; cases rr; exact ⟨_, _, rfl, h1.1, q _ _ S1 _ H1 h1.2 dwalk_range rs1 k1⟩
    · exact h1.elim⟩
end

/-! ### comprehensions -/
theorem wipe_get {σ : St} {i : Nat} : ∀ {vs : List Nat}, (L2.wipe σ vs)[i]? = if i ∈ vs then (σ[i]?).map fun _ => none else σ[i]?
  | [] => by simp [L2.wipe]
  | v :: vs => by
    show ((L2.wipe σ vs).set v none)[i]? = _
    rw [List.getElem?_set, wipe_get (vs := vs), L2.wipe_length]
    by_cases h : v = i
    · subst h
      rw [if_pos rfl, if_pos (List.mem_cons_self)]
      by_cases hl : v < σ.length
      · simp [hl]
      · rw [if_neg hl]
        have h0 : σ[v]? = none := by rw [List.getElem?_eq_none_iff]; omega
        rw [h0]
        rfl
    · rw [if_neg h]
      by_cases hm : i ∈ vs
      · rw [if_pos hm, if_pos (List.mem_cons_of_mem _ hm)]
      · rw [if_neg hm, if_neg (fun z => (List.mem_cons.mp z).elim (fun e => h e.symm) hm)]
theorem wipe_idem (σ : St) (vs : List Nat) : L2.wipe (L2.wipe σ vs) vs = L2.wipe σ vs := by
  apply List.ext_getElem?
  intro i
  rw [wipe_get, wipe_get]
  by_cases h : i ∈ vs
  · rw [if_pos h, if_pos h]; cases σ[i]? <;> rfl
  · rw [if_neg h, if_neg h]
theorem wipe_set {σ : St} {i : Nat} {x : Option V} {vs : List Nat} (h : i ∈ vs) : L2.wipe (σ.set i x) vs = L2.wipe σ vs := by
  apply List.ext_getElem?
  intro j
  rw [wipe_get, wipe_get, List.getElem?_set]
  by_cases hj : j ∈ vs
  · rw [if_pos hj, if_pos hj]
    by_cases e : i = j
    · subst e
      rw [if_pos rfl]
      by_cases hl : i < σ.length
      · simp [hl]
      · rw [if_neg hl]
        have h0 : σ[i]? = none := by rw [List.getElem?_eq_none_iff]; omega
        rw [h0]
        try rfl
    · rw [if_neg e]
  · rw [if_neg hj, if_neg hj]
    have e : i ≠ j := by rintro rfl; exact hj h
    rw [if_neg e]
def EX0 : EXK := fun _ _ _ => False
def W0 : WX := fun _ _ _ _ => False
theorem tk0 {X : Cx} : Takes X W0 := takes0
theorem ux0 {K : PySem.W.Frag} {H : Hp} {W : WX} : UX K H EX0 W := fun _ _ _ _ _ h => h.elim
theorem RepL.blk {K : PySem.W.Frag} {EX : EXK} {W : WX} {H : Hp} {δ : DSt} {σ : St} (h : RepL K EX W H δ σ) (vs : List Nat) : RepL K EX0 W0 H (dwipe δ vs) (L2.wipe σ vs) := ⟨RepL0.wipe h.r vs, ux0⟩
/-- a target of a comprehension: its names are among vs -/
def upGc (K : PySem.W.Frag) (vs : List Nat) (g : DG) : TG := fun v σ H Q => ∃ δ S d Qd, RepL K EX0 W0 H δ σ ∧ RelS K S H ∧ Rep K H d v ∧ g d EX0 δ S Qd ∧ ∀ δ' S' σ' H', Qd δ' S' → RepL K EX0 W0 H' δ' σ' → RelS K S' H' → Kept H H' → L2.wipe σ' vs = L2.wipe σ vs → Q σ' H'
def upGsc (K : PySem.W.Frag) (vs : List Nat) (g : DGs) : TGs := fun us σ H Q => ∃ δ S ds Qd, RepL K EX0 W0 H δ σ ∧ RelS K S H ∧ Reps K H ds us ∧ g ds EX0 δ S Qd ∧ ∀ δ' S' σ' H', Qd δ' S' → RepL K EX0 W0 H' δ' σ' → RelS K S' H' → Kept H H' → L2.wipe σ' vs = L2.wipe σ vs → Q σ' H'
def IsGc (X : Cx) (vs : List Nat) (tg : Expr) (g : DG) : Prop := PG X tg (upGc X.K vs g)
def IsGsc (X : Cx) (vs : List Nat) (tg : List Expr) (g : DGs) : Prop := PGs X tg (upGsc X.K vs g)
section
variable {X : Cx} {pos : Pos} {vs : List Nat}
theorem igc_name (i : Nat) {x : Str} (hN : X.N.Nodup) (hv : i ∈ vs := by decide) (hi : X.N[i]? = some x := by rfl) (hx : Loc X.env.scope x := by first | exact Or.inl rfl | exact Or.inr rfl) (hf : X.fn x = true ∨ X.env.scope.names.lookup x = some .local := by first | exact .inl rfl | exact .inr rfl | assumption) : IsGc X vs (.Name x pos) (dName i) :=
  pg_imp (pg_name hN hi hx hf) fun v σ H Q ⟨δ, S, d, Qd, rl, rs, r, h, q⟩ => q _ S _ H h (rl.set r i) rs (Kept.refl H) (wipe_set hv)
theorem igsc_nil : IsGsc X vs [] dNil :=
  pgs_imp pgs_nil fun us σ H Q ⟨δ, S, ds, Qd, rl, rs, r, h, q⟩ => by
    cases r with
    | nil => exact ⟨rfl, q _ S _ H h rl rs (Kept.refl H) rfl⟩
    | cons _ _ => exact (show False from h).elim
theorem igsc_cons {e : Expr} {es : List Expr} {t : DG} {u : DGs} (h1 : IsGc X vs e t) (h2 : IsGsc X vs es u)
    (hs : (assignEach (e :: es) X.env).map (·.2) = assign e X.env :: (assignEach es X.env).map (·.2) := by rfl) : IsGsc X vs (e :: es) (dCons t u) :=
  pgs_imp (pgs_cons h1 h2 hs) fun us σ H Q ⟨δ, S, ds, Qd, rl, rs, r, h, q⟩ => by
    cases r with
    | nil => exact (show False from h).elim
    | cons r rr => exact ⟨_, _, rfl, δ, S, _, _, rl, rs, r, h, fun δ' S' σ' H' h' rl' rs' k' w' => ⟨δ', S', _, Qd, rl', rs', rr.mono k', h', fun δ2 S2 σ2 H2 hq rl2 rs2 k2 w2 => q δ2 S2 σ2 H2 hq rl2 rs2 (k'.trans k2) (w2.trans w')⟩⟩
theorem igc_tup {es : List Expr} {k : Nat} {t : DGs} {n : Nat} (hc : X.calm = true) (h : IsGsc X vs es t)
    (hn : (assignEach es X.env).length = n := by rfl) (hst : (assignEach es X.env).findIdx? (·.1) = none := by rfl) : IsGc X vs (.Tuple es k pos) (dTup n t) :=
  pg_imp (pg_tup hc h hn hst) fun v σ H Q ⟨δ, S, d, Qd, rl, rs, r, h, q⟩ => by
    cases r with
    | tup hs rr => exact ⟨_, _, rfl, hs, rr.len.trans h.1, δ, S, _, Qd, rl, rs, rr, h.2, q⟩
    | _ => exact (show False from h).elim
end
def IsTs (X : Cx) (ifs : List Expr) (t : DT) : Prop := PTs X ifs (upT X.K EX0 W0 t)
def tYesD : DT := fun _ _ S Q => Q true S
theorem its_nil {X : Cx} : IsTs X [] tYesD := ⟨fun pins s σ H Q I ⟨δ, S, Qd, rl, rs, h, q⟩ => pts_nil.run pins s σ H Q I (show Q true H from q true S H h rs (Kept.refl H))⟩
theorem its_one {X : Cx} {c : Expr} {t : DT} (h : IsT X c t) : IsTs X [c] t := pts_one (h EX0 W0 tk0)
/-- items from ds, each kept or not; the new list stands at p -/
def lcIn (G : Sto → Prop) (g : DG) (tt : DT) (te : DE) (δ : DSt) (p : Addr) : List D → Sto → (Sto → Prop) → Prop
  | [], S, Q => G S ∧ Q S
  | x :: xs, S, Q => G S ∧ g x EX0 δ S fun δ2 S2 => tt EX0 δ2 S2 fun b S3 =>
    if b = true then te EX0 δ2 S3 fun d S4 => ∃ acc, S4 p = some (.lst acc) ∧ acc.length < sizeLine ∧ lcIn G g tt te δ p xs (sup S4 p (.lst (acc ++ [d]))) Q else lcIn G g tt te δ p xs S3 Q
def eLc (w : DI) (g : DG) (tt : DT) (te : DE) (vs : List Nat) : DE := fun EX δ S Q => w EX δ S fun G ds S1 => ∀ p, S1 p = none → lcIn G g tt te (dwipe δ vs) p ds (sup S1 p (.lst [])) fun S' => Q (.ref p) S'
theorem lcIn_guard {G : Sto → Prop} {g : DG} {tt : DT} {te : DE} {δ : DSt} {p : Addr} : ∀ {ds : List D} {S : Sto} {Q : Sto → Prop}, lcIn G g tt te δ p ds S Q → G S
  | [], _, _, h => h.1
  | _ :: _, _, _, h => h.1
abbrev Cx.bk (X : Cx) (scope : Scope) (q : Shared × Hp × Addr × List (Str × Addr) × List Addr) : Cx := Cx.blk X q.1 q.2.1 scope (compEnvC scope q.2.2.2.1 q.2.2.1 X.env) q.2.2.2.2
section
variable {X : Cx} {elt tg iter : Expr} {ifs : List Expr} {scope : Scope} {pos : Pos} {w : DI} {g : DG} {tt : DT} {te : DE}
theorem low_lc {K : PySem.W.Frag} {EX : EXK} {W : WX} {vs : List Nat} : ∀ σ H Q, upE K EX W (eLc w g tt te vs) σ H Q → tLc (upI K EX W w) (upGc K vs g) (upT K EX0 W0 tt) (upE K EX0 W0 te) vs σ H Q := fun σ H Q ⟨δ, S, Qd, rl, rs, h, q⟩ => by
  refine ⟨δ, S, _, rl, rs, h, fun G ds S1 J H1 h1 ⟨gg, Y, wk, hG, hY⟩ rs1 k1 P np => ?_⟩
  have h2 := h1 P (rs1.fresh np)
  refine lc_it wk (fun i H' => ∃ S', lcIn G g tt te (dwipe δ vs) P (ds.drop i) S' (fun S' => Qd (.ref P) S') ∧ RelS K S' H' ∧ Kept H1 H') ⟨_, h2, rs1.newL np .nil, Kept.new np⟩ ?_ ?_ ?_
  · rintro i H' hi ⟨S', q', rs', k'⟩
    exact hG S' H' rs' k' (lcIn_guard q')
  · rintro i v H2 H3 hi ⟨S2, q2, rs2, k2⟩ y
    have g2 := lcIn_guard q2
    obtain ⟨d, e, r3, rs3, k3⟩ := hY i S2 H2 v H3 hi y rs2 k2 g2
    have hi' : i < ds.length := hi
    have ed : ds[i] = d := by
      rw [List.getElem?_eq_getElem hi'] at e
      exact Option.some.inj e
    rw [List.drop_eq_getElem_cons hi', ed] at q2
    have kk := (k1.trans k2).trans k3
    refine ⟨dwipe δ vs, S2, d, _, (rl.mono kk).blk vs, rs3, r3, q2.2, fun δ4 S4 σ4 H4 h4 rl4 rs4 k4 w4 => ⟨w4.trans (wipe_idem σ vs), ?_⟩⟩
    refine ⟨δ4, S4, _, rl4, rs4, h4, fun b S5 H5 h5 rs5 k5 => ?_⟩
    cases b with
    | false => exact ⟨S5, h5, rs5, ((k2.trans k3).trans k4).trans k5⟩
    | true =>
      refine ⟨δ4, S5, _, rl4.mono k5, rs5, h5, fun d6 S6 v6 H6 ⟨acc, e6, hz, h6⟩ r6 rs6 k6 => ?_⟩
      obtain ⟨xs, ex, rx⟩ := rs6 P _ e6
      exact ⟨xs, ex, by rw [rx.len]; exact hz, _, h6, rs6.setL ex (rx.append (.one r6)), ((((k2.trans k3).trans k4).trans k5).trans k6).trans (Kept.mut ex nimm_lst)⟩
  · rintro H2 ⟨S2, q2, rs2, k2⟩
    rw [List.drop_length] at q2
    exact q _ S2 _ H2 q2.2 (.ref P) rs2 (k1.trans k2)
theorem ie_lc (own : List (Str × Nat)) (hc : X.calm = true) (hN : X.N.Nodup) (hi : IsI X tg iter w)
    (hg : ∀ q, IsGc (Cx.bk X scope q) (own.map (Prod.snd (α := Str) (β := Nat))) tg g) (ht : ∀ q, IsTs (Cx.bk X scope q) ifs tt) (he : ∀ q, IsE (Cx.bk X scope q) elt te) (ok : BlkOk X.N X.env.scope scope own := by exact blkOk_by (by decide +kernel))
    (hs : ∀ x, foldedSetIterable iter X.env x = pure x := by intro _; rfl) : IsE X (.ListComp elt [⟨tg, iter, ifs, 0⟩] scope pos) (eLc w g tt te (own.map (Prod.snd (α := Str) (β := Nat)))) := fun EX W tk =>
  pe_imp (pe_lc (g := upGc X.K (own.map (Prod.snd (α := Str) (β := Nat))) g) (tt := upT X.K EX0 W0 tt) (te := upE X.K EX0 W0 te) hc hN (hi EX W tk) ok (fun s H C cl fp => hg (s, H, C, cl, fp)) (fun s H C cl fp => ht (s, H, C, cl, fp)) (fun s H C cl fp => he (s, H, C, cl, fp) EX0 W0 tk0) hs) (low_lc (vs := own.map (Prod.snd (α := Str) (β := Nat))))
theorem is_setLc {y : Str} {py spos : Pos} (i : Nat) (own : List (Str × Nat)) (hc : X.calm = true) (hN : X.N.Nodup) (hi : IsI X tg iter w)
    (hg : ∀ q, IsGc (Cx.bk X scope q) (own.map (Prod.snd (α := Str) (β := Nat))) tg g) (ht : ∀ q, IsTs (Cx.bk X scope q) ifs tt) (he : ∀ q, IsE (Cx.bk X scope q) elt te) (hy : X.N[i]? = some y := by rfl) (hyl : X.env.scope.names.lookup y = some .local := by rfl)
    (hsw : swapsWith (.ListComp elt [⟨tg, iter, ifs, 0⟩] scope pos) (some (.Name y py)) spos.line X.env = pure true := by exact sw_true rfl rfl rfl (by decide +kernel))
    (ok : BlkOk X.N X.env.scope scope own := by exact blkOk_by (by decide +kernel))
    (hs : ∀ x, foldedSetIterable iter X.env x = pure x := by intro _; rfl) : IsS X (.Assign [.Name y py] (.ListComp elt [⟨tg, iter, ifs, 0⟩] scope pos) spos) (sSet i (eLc w g tt te (own.map (Prod.snd (α := Str) (β := Nat))))) := fun EX W tk =>
  ps_imp (ps_setLc (g := upGc X.K (own.map (Prod.snd (α := Str) (β := Nat))) g) (tt := upT X.K EX0 W0 tt) (te := upE X.K EX0 W0 te) hc hN hy hyl hsw (hi EX W tk) ok (fun s H C cl fp => hg (s, H, C, cl, fp)) (fun s H C cl fp => ht (s, H, C, cl, fp)) (fun s H C cl fp => he (s, H, C, cl, fp) EX0 W0 tk0) hs) fun T σ H ⟨δ, S, Dd, rl, rs, h, U⟩ =>
    low_lc (w := w) (g := g) (tt := tt) (te := te) (EX := EX) (vs := own.map (Prod.snd (α := Str) (β := Nat))) σ H _ ⟨δ, S, fun d S1 => Dd.nx (δ.set i (some d)) S1, rl, rs, h, fun d S1 v H1 h1 rv rs1 k1 => U.nx _ S1 _ H1 h1 ((rl.mono k1).set rv i) rs1 k1⟩
end
end DL
end L2

/-! DLd: calls of defs, raise, try with a def that looks at the error. -/
namespace L2
namespace DL
open PySem PySem.Spec PyProof.Rows

/-! ### what a def promises, over data -/
abbrev DSp := List D → Sto → DK → (Addr → Sto → Prop) → Prop
def upF (K : PySem.W.Frag) (sp : DSp) : Sp := fun vs H Q E => ∃ ds S Qd Ed, Reps K H ds vs ∧ RelS K S H ∧ sp ds S Qd Ed ∧ (∀ d S' v H', Qd d S' → Rep K H' d v → RelS K S' H' → Kept H H' → Q v H') ∧
  ∀ C S' H', Ed C S' → RelS K S' H' → Kept H H' → E (.ref C) none H'
structure FnD (P : Program) (w : World) (K : PySem.W.Frag) (mg : Str → Option Value) (base : Heap) (k : Nat) (x : Str) (dvs : List D) (sp : DSp) : Prop where
  ex : ∃ (f : Addr) (fd : FuncData) (ps : List Str) (ds : List Value) (vs : List V), FnOk P w K mg base (L2.CX P w) k f fd ps (upF K sp) ∧ mg x = some (.ref f) ∧ PySem.W.keepIn K (.ref f) = true ∧ Binds K fd ps ds ∧ Vals vs ds ∧ ∀ H, Reps K H dvs vs
theorem FnD.lift {P : Program} {w : World} {K : PySem.W.Frag} {mg : Str → Option Value} {base : Heap} {j k : Nat} {x : Str} {dvs : List D} {sp : DSp} (F : FnD P w K mg base j x dvs sp) (h : j ≤ k) : FnD P w K mg base k x dvs sp := by
  obtain ⟨f, fd, ps, ds, vs, a, b⟩ := F.ex
  exact ⟨f, fd, ps, ds, vs, a.mono h, b⟩
theorem run_fnD {X : Cx} {k : Nat} {f : Addr} {fd : FuncData} {ps : List Str} {sp : Sp} {ds : List Value} {dvs vs : List V} {E : XK} {pins : List (Addr × Obj)} {σ : St} {H : Hp} {s : Shared} {Q : VK} {us : List Value}
    (F : FnOk X.prog X.w X.K X.mg X.base (L2.CX X.prog X.w) k f fd ps sp) (hr : Room k X.A) (hb : Binds X.K fd ps ds) (hd : Vals dvs ds) (hx : PassesAt (L2.CX X.prog X.w) X σ E)
    (I : Inv X pins σ H s) (r : Vals vs us) (h : sp (vs ++ dvs) H Q E) : wpAny (model X.prog X.w) X.A (call (.ref f) us) (EP X pins σ Q) X.xe s := by
  have both : Vals (vs ++ dvs) (us ++ ds) := r.append hd
  have many : (us ++ ds).length = ps.length := both.length.symm.trans (F.len _ _ _ _ h)
  have go := F.run X.A X.stack s H ⟨us, []⟩ (us ++ ds) (vs ++ dvs) Q E hr I.env0 (hb s us I.kIn many) both h
  refine wpAny_call (codeAny_mono go fun res s' q => ?_)
  match res, q with
  | .error e, q => exact hx pins H s e s' I q
  | .ok (.ret u), q => exact I.after q
def eCall (sp : DSp) (dvs : List D) (t : DA) : DE := fun EX δ S Q => t EX δ S fun ds S1 => sp (ds ++ dvs) S1 Q fun C S' => EX C δ S'
section
variable {X : Cx} {k : Nat} {x : Str} {e : Expr} {es : List Expr} {t : DA} {sp : DSp} {dvs : List D} {p pos : Pos}
theorem ie_call (F : FnD X.prog X.w X.K X.mg X.base k x dvs sp) (hr : Room k X.A) (ha : IsA X (e :: es) t) (hg : Gl X x := by rfl) (hdb : (x == ("__debug__" : Str)) = false := by decide)
    (he : starEach (e :: es) X.env = (false, eval e X.env) :: starEach es X.env := by rfl) (hpl : (backTo pos (starEach es X.env)).any (·.1) = false := by rfl) : IsE X (.Call (.Name x p) (e :: es) [] pos) (eCall sp dvs t) := fun EX W tk => by
  obtain ⟨f, fd, ps, ds, vs0, F1, hm, hk, hb, hd, hrep⟩ := F.ex
  refine ⟨fun pins s σ H Q I ⟨δ, S, Qd, rl, rs, h, q⟩ => ?_⟩
  refine wpAny_Call_Name_kw (ld_glob I hg hm ?_ hdb)
  refine PySem.W.callWith_K (h₀ := X.base) I.ok.mod.kin hk (thn ((ha EX W tk).run pos pins s σ H (fun vs H1 => ∃ ds S1, sp (ds ++ dvs) S1 Qd (fun C S' => EX C δ S') ∧ Reps X.K H1 ds vs ∧ RelS X.K S1 H1 ∧ Kept H H1) I ⟨δ, S, _, rl, rs, h, fun ds S1 vs H1 h1 r1 rs1 k1 => ⟨ds, S1, h1, r1, rs1, k1⟩⟩) fun us s1 ⟨vs, H1, I1, r, ds1, S1, h1, r1, rs1, k1⟩ => ⟨I1.kIn, ?_⟩) he hpl
  exact run_fnD F1 hr hb hd (passAt tk σ) I1 r ⟨ds1 ++ dvs, S1, Qd, _, r1.append (hrep H1), rs1, h1, fun d S' v H' hq r' rs' k' => q d S' v H' hq r' rs' (k1.trans k'), fun C S' H' hE rs' k' =>
    rl.x C δ S' σ H' hE (rl.r.mono (k1.trans k')) rs' (k1.trans k')⟩
theorem ie_call0 (F : FnD X.prog X.w X.K X.mg X.base k x dvs sp) (hr : Room k X.A) (hg : Gl X x := by rfl) (hdb : (x == ("__debug__" : Str)) = false := by decide) : IsE X (.Call (.Name x p) [] [] pos) (eCall sp dvs aNil) := fun EX W tk => by
  obtain ⟨f, fd, ps, ds, vs0, F1, hm, hk, hb, hd, hrep⟩ := F.ex
  refine ⟨fun pins s σ H Q I ⟨δ, S, Qd, rl, rs, h, q⟩ => ?_⟩
  refine wpAny_Call_Name_kw (ld_glob I hg hm ?_ hdb)
  exact PySem.W.callWith_K0 I.kIn hk (run_fnD (us := []) (vs := []) F1 hr hb hd (passAt tk σ) I .nil ⟨dvs, S, Qd, _, hrep H, rs, h, q, fun C S' H' hE rs' k' => rl.x C δ S' σ H' hE (rl.r.mono k') rs' k'⟩)
end

/-! ### a def of the text -/
theorem kept_of_un {fs ex : List Addr} {H H' : Hp} {h h' : Heap} (u : Un fs ex H H' h h') : Kept H H' := fun a o e i => by
  cases o with
  | tup xs => exact u.tups a xs e
  | frz ob v => exact u.frzs a ob v e
  | _ => exact (show False from i).elim
theorem takes_kept {X : Cx} {W : WX} (t : Takes X W) : Takes X (fun c d σ H => Kept X.H_0 H → W c d σ H) := fun u s' ⟨a, B, sI, pins, σ, H, cls, d, e, I, nb, up, sky, na, os, ag, w⟩ =>
  t u s' ⟨a, B, sI, pins, σ, H, cls, d, e, I, nb, up, sky, na, os, ag, w (kept_of_un I.base)⟩
/-- a def as it stands behind the top, whatever its defaults -/
structure TxD (K : PySem.W.Frag) (x qual : Str) (st : Stmt) (f : Addr) (fd : FuncData) : Prop where
  ex : ∃ (oc : Value) (od : Option Addr) (dV kV doc pm : Value) (an : Option Addr) (cdv ct : Value) (osl : Array (Option Value)),
    fd = PySem.W.fnOf x qual (defArgs st) (defBody st) (defScope st) dV kV doc pm an cdv ct ∧ K.lookup f = some ⟨oc, od, .func fd, osl⟩ ∧ PySem.W.codeIn K cdv qual = true
  kp : PySem.W.keepIn K (.ref f) = true
theorem TxD.of {K : PySem.W.Frag} {x qual : Str} {st : Stmt} {f : Addr} {fd : FuncData} (F : Fun K x qual st f fd) : TxD K x qual st f fd :=
  let ⟨oc, od, kV, doc, pm, an, cdv, ct, osl, e, l, c⟩ := F.ex
  ⟨⟨oc, od, .none, kV, doc, pm, an, cdv, ct, osl, e, l, c⟩, F.kp⟩
def dstart (N : List Str) (ds : List D) : DSt := ds.map some ++ List.replicate (N.length - ds.length) none
/-- forgetting at a def's end -/
def bodyEX (Ed : Addr → Sto → Prop) : EXK := fun C _ S' => ∃ S0, Sub S0 S' ∧ Ed C S0
def bodyEnds (Qd : DK) : DEnds := { nx := fun _ S' => ∃ S0, Sub S0 S' ∧ Qd .non S0, rt := fun d S' => ∃ S0, Sub S0 S' ∧ Qd d S0 }
theorem fnok_of {P : Program} {w : World} {K : PySem.W.Frag} {mg : Str → Option Value} {base : Heap} {x qual : Str} {st : Stmt} {f : Addr} {fd : FuncData} {N ps : List Str} {k : Nat} {sp : DSp} {tb : DS} (F : TxD K x qual st f fd) (S : FnScope N ps (defScope st))
    (len : ∀ ds S Q E, sp ds S Q E → ds.length = ps.length)
    (hB : ∀ (cdv : Value) (A : Around) (outer : List Env) (s : Shared) (H : Hp) (E : XK), Room k (A.deeper (envOfC qual (defScope st) s.heap.objs.size f cdv)) → IsB (cxOf (L2.CX P w) P w K mg base N qual (defScope st) f cdv A outer s H E) (defBody st) tb)
    (sem : ∀ ds S Q E, sp ds S Q E → tb (bodyEX E) (bodyEnds Q) (dstart N ds) S) : FnOk P w K mg base (L2.CX P w) (k + 1) f fd ps (upF K sp) := by
  obtain ⟨oc, od, dV, kV, doc, pm, an, cdv, ct, osl, rfl, lk, hcd⟩ := F.ex
  refine fn_of lk hcd S (fun vs H Q E ⟨ds, S, Qd, Ed, r, _, h, _⟩ => r.len.trans (len _ _ _ _ h)) fun A outer s H vs Q E hr ⟨ds, S, Qd, Ed, r, rs, h, q, qE⟩ => ?_
  have tk : Takes (cxOf (L2.CX P w) P w K mg base N qual (defScope st) f cdv A outer s H E) (fun cls d _ H => E cls d H) := takes_of rfl rfl rfl rfl
  refine ⟨_, hB cdv A outer s H E hr (bodyEX Ed) _ tk, dstart N ds, S, bodyEnds Qd, ⟨?_, fun C δ S' σ H' ⟨S0, sb, hE⟩ _ rs' k' => qE C S0 H' hE (rs'.sub sb) k'⟩, rs, sem ds S Qd Ed h, ?_⟩
  · unfold L2.start dstart
    rw [r.len]
    exact RepL0.start r
  · exact ⟨fun δ' S' σ' H' ⟨S0, sb, hq⟩ _ rs' k' => q _ S0 _ H' hq .non (rs'.sub sb) k', fun _ _ _ _ z => z.elim, fun _ _ _ _ z => z.elim, fun d S' v H' ⟨S0, sb, hq⟩ r' rs' k' => q d S0 v H' hq r' (rs'.sub sb) k'⟩

/-! ### raise -/
structure ExK (K : PySem.W.Frag) (mg : Str → Option Value) (x : Str) (C : Addr) : Prop where
  q : PySem.W.excIn K C [.type "ValueError", .type "Exception", .type "BaseException", .type "object"] "ValueError.__new__" = true
  g : mg x = some (.ref C)
  k : PySem.W.keepIn K (.ref C) = true
  b : PySem.W.subIn K (.ref C) (.type "BaseException") = some true
  t : PySem.W.typeIn K (.ref C) = some (.type "type")
def sRaise (C : Addr) : DS := fun EX _ δ S => EX C δ S
theorem is_raise {X : Cx} {x m : Str} {C : Addr} {j : Nat} {p p2 pos pos2 : Pos} (hc : X.calm = true) (E : ExK X.K X.mg x C) (hg : Gl X x := by rfl) (hdb : (x == ("__debug__" : Str)) = false := by decide) :
    IsS X (.Raise (some (.Call (.Name x p) [.Constant (.str m) j p2] [] pos)) none pos2) (sRaise C) := fun EX W tk =>
  ps_imp (ps_raise hc tk (pmk_own PySem.F.excBase_ValueError E.q E.g E.k (raises_own E.b E.t) hg hdb)) fun T σ H ⟨δ, S, Dd, rl, rs, h, U⟩ => rl.x C δ S σ H h rl.r rs (Kept.refl H)

/-! ### try: return .. except E as e: return which(e) -/
/-- which(e) gives a text by e's class -/
structure WhichOk (P : Program) (w : World) (K : PySem.W.Frag) (mg : Str → Option Value) (base : Heap) (k : Nat) (x : Str) (h : Addr → Option Str) : Prop where
  ex : ∃ (f : Addr) (fd : FuncData) (n : Str), mg x = some (.ref f) ∧ PySem.W.keepIn K (.ref f) = true ∧ Binds K fd [n] [] ∧
    ∀ (A : Around) (outer : List Env) (s : Shared) (H : Hp) (args : Args) (a C : Addr) (oe : Obj) (z : Str) (S : Sto), RelS K S H → L2H.RoomH k A → L2H.PinOk outer H s (a, oe) → Zc (.ref C) none oe → (∃ vs, oe.data = .fields vs) → h C = some z → Env0 P w K mg base A outer s H →
      BindsTo s fd args ([n].zip [.ref a]) → codeAny (model P w) A (.call (.ref f) args) (fun r s' => ∃ u, r = .ok (.ret u) ∧ CE outer P w H s (fun v H' => v = .str z ∧ Kept H H' ∧ RelS K S H') u s') s
def sTryW (b : DS) (h : Addr → Option Str) : DS := fun _ T δ S => b (fun C δ' S' => match h C with
  | some z => T.rt (.str z) S'
  | none => False) T δ S
/-- the suite: return which(e) -/
theorem suite_which {X : Cx} {n wn : Str} {i k : Nat} {h : Addr → Option Str} {pw pn' pc pr : Pos} {a : Addr} {oe : Obj} {cls : Value} {d : Option Addr} {pn : List (Addr × Obj)} (hw : WhichOk X.prog X.w X.K X.mg X.base k wn h) (hgw : Gl X wn) (hdw : (wn == ("__debug__" : Str)) = false) (hr : L2H.RoomH k X.A)
    (hi : X.N[i]? = some n) (hvis : Vis X.env.scope n) (hn1 : (n == ("__debug__" : Str)) = false) (hn2 : (n == ("__classdict__" : Str)) = false)
    (hst : starEach [.Name n pn'] X.env = (false, eval (.Name n pn') X.env) :: starEach [] X.env) (hpl : (backTo pc (starEach [] X.env)).any (·.1) = false) (hz : Zc cls d oe) (hf : ∃ vs, oe.data = .fields vs) :
    PSs (X.suite a ((a, oe) :: pn)) [.Return (some (.Call (.Name wn pw) [.Name n pn'] [] pc)) pr] (fun T σ H => ∃ C z S, cls = .ref C ∧ d = none ∧ h C = some z ∧ RelS X.K S H ∧ (i < σ.length → σ[i]? = some (some (.ref a))) ∧ ∀ H', Kept H H' → RelS X.K S H' → T.rt (.str z) H') := by
  obtain ⟨f, fd, fn, hmg, hkeep, hbind, hrun⟩ := hw.ex
  refine pss_one (ps_ret (X := X.suite a ((a, oe) :: pn)) (te := fun σ H Q => ∃ C z S, cls = .ref C ∧ d = none ∧ h C = some z ∧ RelS X.K S H ∧ (i < σ.length → σ[i]? = some (some (.ref a))) ∧ ∀ H', Kept H H' → RelS X.K S H' → Q (.str z) H') ⟨fun pins s σ H Q I ⟨C, z, S, e1, e2, hC, rs, es, q⟩ => ?_⟩)
  subst e1 e2
  refine wpAny_Call_Name_kw (ld_glob (X := X.suite a ((a, oe) :: pn)) I hgw hmg ?_ hdw)
  have pa := pa_cons (X := X.suite a ((a, oe) :: pn)) (pe_var (X := X.suite a ((a, oe) :: pn)) (pos := pn') (i := i) hi hvis hn1 hn2) pa_nil hst
  refine PySem.W.callWith_K (h₀ := X.base) I.ok.mod.kin hkeep (thn (pa.run pc pins s σ H (fun vs H1 => vs = [V.ref a] ∧ H1 = H) I ⟨.ref a, es (by rw [I.len]; exact (List.getElem?_eq_some_iff.mp hi).1), rfl, rfl⟩) fun us s1 ⟨vs, H1, I1, r, e3, e4⟩ => ⟨I1.kIn, ?_⟩) hst hpl
  subst e3 e4
  obtain ⟨u, rfl, ru⟩ := vals1 r
  obtain rfl : u = Value.ref a := ru
  have pin := I1.pin (a, oe) (List.mem_append_left _ List.mem_cons_self)
  have off : a ∉ frs X.stack := fun hm => (List.mem_cons.mp (I1.stkSub a hm)).elim pin.2.2.1 pin.2.2.2.1
  have bb := hbind s1 [.ref a] I1.kIn rfl
  refine wpAny_call (codeAny_mono (hrun (X.A.mark (some (.ref a))) X.stack s1 H1 ⟨[.ref a], []⟩ a C oe z S rs ⟨hr.dp, hr.un⟩ ⟨pin.1, pin.2.1, off, pin.2.2.2.2⟩ hz hf hC I1.env0 bb) fun res s' hq => ?_)
  obtain ⟨u, rfl, hce⟩ := hq
  obtain ⟨v, H', os, bare, un, hok, rv, ev, kk, hrs⟩ := hce
  exact I1.after ⟨v, H', os, bare, un, hok, rv, by rw [ev]; exact q H' kk hrs⟩
theorem is_tryW {X : Cx} {x n wn : Str} {cE : Addr} {i k : Nat} {body : List Stmt} {h : Addr → Option Str} {tb : DS} {np pw pn' pc pr pos pos' : Pos} (hN : X.N.Nodup) (hE : X.mg x = some (.ref cE)) (hw : WhichOk X.prog X.w X.K X.mg X.base k wn h) (hr : L2H.RoomH k X.A)
    (hm : ∀ C z, h C = some z → PySem.W.exmOne X.K (.ref C) (.ref cE) = some true)
    (hb : ∀ (pn : List (Addr × Obj)) (xe : Value → Shared → Prop), PassesOwn (model X.prog X.w) X.A X.env xe → IsB (Cx.tr X pn xe) body tb)
    (hs : X.stack = X.env :: X.outer := by rfl) (hf : X.env.frame = some X.env.locals := by rfl) (hi : X.N[i]? = some n := by rfl) (hln : X.env.kindOf n = some .local := by rfl)
    (hg : Gl X x := by rfl) (hx : (x == ("__debug__" : Str)) = false := by decide) (hgw : Gl X wn := by rfl) (hdw : (wn == ("__debug__" : Str)) = false := by decide)
    (hvis : Vis X.env.scope n := by exact Or.inl rfl) (hn1 : (n == ("__debug__" : Str)) = false := by decide) (hn2 : (n == ("__classdict__" : Str)) = false := by decide)
    (hst : starEach [.Name n pn'] X.env = (false, eval (.Name n pn') X.env) :: starEach [] X.env := by rfl) (hpl : (backTo pc (starEach [] X.env)).any (·.1) = false := by rfl) :
    IsS X (.Try body [.ExceptHandler (some (.Name x np)) (some n) [.Return (some (.Call (.Name wn pw) [.Name n pn'] [] pc)) pr] pos'] [] [] pos) (sTryW tb h) := fun EX W tk => by
  have main := ps_try_as (x := x) (n := n) (c := .ref cE) (i := i) (body := body) (suite := []) (b₀ := .Return (some (.Call (.Name wn pw) [.Name n pn'] [] pc)) pr) (np := np) (pos := pos) (pos' := pos')
    (tb := fun Wb T σ H => ∃ (EX' : EXK) (δ : DSt) (S : Sto) (Dd : DEnds), RepL X.K EX' Wb H δ σ ∧ RelS X.K S H ∧ tb EX' Dd δ S ∧ Under X.K EX' Wb H Dd T)
    (ts := fun a cls d T σ H => ∃ C z S, cls = .ref C ∧ d = none ∧ h C = some z ∧ RelS X.K S H ∧ (i < σ.length → σ[i]? = some (some (.ref a))) ∧ ∀ H', Kept H H' → RelS X.K S H' → T.rt (.str z) H') (Wout := W)
    hs hf hN hi hln ⟨hg, hx, .inl hE⟩ tk ?_ ?_
  · refine ps_imp main fun T σ H ⟨δ, S, Dd, rl, rs, h1, U⟩ => ?_
    have up : ∀ {H' : Hp} {EX' : EXK} {W' : WX} {δ' : DSt} {σ' : St}, Kept H H' → RepL X.K EX' W' H' δ' σ' → RepL X.K EX W H' δ' σ' := fun k' r' => ⟨r'.r, fun C δ S σ H1 a b c e => rl.x C δ S σ H1 a b c (k'.trans e)⟩
    refine ⟨_, δ, S, Dd, ⟨rl.r, fun C δ' S' σ' H' hx' r' rs' k' => ?_⟩, rs, h1, ⟨fun δ' S' σ' H' hq r' rs' k' => U.nx δ' S' σ' H' hq (up k' r') rs' k', fun δ' S' σ' H' hq r' rs' k' => U.bk δ' S' σ' H' hq (up k' r') rs' k', fun δ' S' σ' H' hq r' rs' k' => U.ct δ' S' σ' H' hq (up k' r') rs' k', U.rt⟩⟩
    cases e : h C with
    | none =>
      rw [e] at hx'
      exact (show False from hx').elim
    | some z =>
      rw [e] at hx'
      refine ⟨true, hm C z e, fun _ a na => ⟨C, z, S', rfl, rfl, e, rs', fun hl => ?_, fun H2 k2 hrs => U.rt _ S' _ H2 hx' (.str z) hrs (k'.trans k2)⟩, fun q => nomatch q⟩
      rw [List.length_set] at hl
      rw [List.getElem?_set_self hl]
  · intro Wb pn xe tkb hpo
    exact ⟨fun pins s σ H T I ⟨EX', δ, S, Dd, a1, a2, a3, a4⟩ => (hb pn xe hpo EX' Wb tkb).run pins s σ H T I ⟨δ, S, Dd, a1, a2, a3, a4⟩⟩
  · intro a oe cls d pn hz hfd
    exact suite_which hw hgw hdw hr hi hvis hn1 hn2 hst hpl hz hfd

theorem which_of {P : Program} {w : World} {K : PySem.W.Frag} {mg : Str → Option Value} {base : Heap} {x qual n : Str} {st : Stmt} {f : Addr} {fd : FuncData} {N : List Str} {k : Nat} {h : Addr → Option Str} (F : Fun K x qual st f fd) (Sc : FnScope N [n] (defScope st)) (hbn : Binds K fd [n] []) (hmg : mg x = some (.ref f)) (t : Addr → Addr → DS)
    (hB : ∀ (C : Addr) (z : Str), h C = some z → ∀ (cdv : Value) (A : Around) (outer : List Env) (s : Shared) (H : Hp) (a : Addr) (oe : Obj), Zc (.ref C) none oe → (∃ vs, oe.data = .fields vs) → IsB (L2H.cxH (L2.CX P w) P w K mg base N qual (defScope st) f cdv A outer s H E0 (a, oe)) (defBody st) (t a C))
    (sem : ∀ a C z S, h C = some z → t a C EX0 { nx := fun _ _ => False, rt := fun d S' => d = .str z ∧ Sub S S' } (dstart N [.ref a]) S) : WhichOk P w K mg base (k + 1) x h := by
  obtain ⟨oc, od, kV, doc, pm, an, cdv, ct, osl, hfd, lk, hcd⟩ := F.ex
  subst hfd
  refine ⟨f, _, n, hmg, F.kp, hbn, fun A outer s H args a C oe z S rs hr hp hz hv hC e0 hb => ?_⟩
  have KX : K.In s.heap := e0.mod.kin.keeps fun b o e => (e0.bs b o e).1
  have lim : s.heap.NoLimit := e0.mod.nolimit.keeps fun b o e => (e0.bs b o e).1
  have kinds : ∀ y ∈ [n].zip [Value.ref a], (defScope st).names.lookup y.1 = some .local ∨ ((defScope st).names.lookup y.1 = some .cell ∧ ((cellsFrom (s.heap.objs.size + 1) (defScope st).names []).lookup y.1).isSome = true) := by
    rintro ⟨y, v⟩ hy
    have hy' : y = n := by simpa using (List.of_mem_zip hy).1
    rcases Sc.par n List.mem_cons_self with q | q
    · exact .inl (by rw [hy']; exact q)
    · exact .inr ⟨by rw [hy']; exact q, PySem.W.cellsFrom_some _ _ _ (.inl (by rw [hy']; exact q))⟩
  have go : codeAny (model P w) A (.call (.ref f) args) (CR (L2.CX P w) outer P w H s (fun v H' => v = .str z ∧ Kept H H' ∧ RelS K S H') E0) s := by
    refine codeAny_call_function hr.depth (KX _ _ lk) rfl Sc.co Sc.gen rfl (PySem.W.codeRec_of KX hcd) (hb _ _ _ _ ?_)
    refine wpAny_newFunctionEnv_cells Sc.kind kinds fun env he s1 y => ?_
    subst he
    refine ⟨lim.keeps y.toInCall.keep, codeAny_func ?_⟩
    have I := L2H.inv_startH (CX := L2.CX P w) (N := N) (qual := qual) (f := f) (cd := cdv) (E := E0) (vs := [V.ref a]) Sc hp e0 rfl (Paired.cons rfl .nil) y
    have ht := (hB C z hC cdv A outer s H a oe hz hv) EX0 W0 tk0
    refine wpAny_mono (ht.run [] s1 (L2.start N [V.ref a]) H { nx := fun _ _ => False, rt := fun v H' => v = .str z ∧ Kept H H' ∧ RelS K S H' } I ⟨dstart N [.ref a], S, _, ⟨RepL0.start (.cons (.ref a) .nil), ux0⟩, rs, sem a C z S hC, ?_⟩) (fun fl s' hs => ?_) fun e s' hs => hs
    · exact ⟨fun _ _ _ _ q => q.elim, fun _ _ _ _ q => q.elim, fun _ _ _ _ q => q.elim, fun d S' v H' ⟨ed, sb⟩ r' rs' k' => by
        subst ed
        cases r'
        exact ⟨rfl, k', rs'.sub sb⟩⟩
    · match fl, hs with
      | .ret u, ⟨v, σ', H', J, rv, q⟩ => exact ⟨v, H', J.os, J.bare, J.base, J.hok, rv, q⟩
      | .next, ⟨_, _, _, q⟩ => exact q.elim
      | .brk, ⟨_, _, _, q⟩ => exact q.elim
      | .cont, ⟨_, _, _, q⟩ => exact q.elim
  refine codeAny_mono go fun r s' q => ?_
  match r, q with
  | .ok (.ret u), q => exact ⟨u, rfl, q⟩
  | .error e, ⟨_, _, _, _, _, _, _, _, _, _, _, _, z⟩ => exact z.elim
end DL
end L2

/-! TM: a tuple so many times, few times too. -/
namespace L2
namespace TMu
open PySem PySem.Spec PyProof PyProof.Rows
abbrev tupO (dd : Option Addr) (items : Array Value) (n : Nat) (sl : Array (Option Value)) : Obj := { cls := .type "tuple", dict := dd, data := .seq items n, slots := sl }
theorem fit {x : Int} (h1 : -(2 ^ 63) ≤ x) (h2 : x < 2 ^ 63) : ¬ (decide (x < -(2 ^ 63)) || decide (x ≥ 2 ^ 63)) = true := by
  rw [Bool.or_eq_true, decide_eq_true_eq, decide_eq_true_eq]
  omega
theorem same (l : Addr) (items : Array Value) (n : Nat) (dd : Option Addr) (sl : Array (Option Value)) (x : Int) (u : Tok) (h1 : -(2 ^ 63) ≤ x) (h2 : x < 2 ^ 63) (h : (items.isEmpty || x == 1) = true) :
    Meets (Builtin.«tuple.__mul__» ⟨[.ref l, .int x u], []⟩) (fun _ R s => s.heap.get? l = some (tupO dd items n sl) ∧ R (.ok (.ret (.ref l))) s) := by
  refine .of_wp fun prog w A R s g => ?_
  obtain ⟨H, g0, d, tk, os⟩ := s
  obtain ⟨hl, r⟩ := g
  have ix := AutoSeq1.idx_int
  have ff := fit h1 h2
  wp_walk using AutoSeq1.wpAny_loadPart' hl
  repeat (first
    | (refine wpAny_ite_false (decide_eq_false ff) ?_; wp_walk using AutoSeq1.wpAny_loadPart' hl)
    | (refine wpAny_ite_true (decide_eq_true h) ?_; wp_walk using AutoSeq1.wpAny_loadPart' hl))
  exact ⟨_, rfl, r⟩
theorem noneOf (l : Addr) (items : Array Value) (n : Nat) (dd : Option Addr) (sl : Array (Option Value)) (x : Int) (u : Tok) (h1 : -(2 ^ 63) ≤ x) (h2 : x < 2 ^ 63) (h : (items.isEmpty || x == 1) = false) (h0 : x ≤ 0) :
    Meets (Builtin.«tuple.__mul__» ⟨[.ref l, .int x u], []⟩) (fun _ R s => s.heap.get? l = some (tupO dd items n sl) ∧
      R (.ok (.ret (Value.ref s.heap.objs.size))) { s with heap := s.heap.push { cls := Value.type "tuple", data := Data.seq #[] } }) := by
  refine .of_wp fun prog w A R s g => ?_
  obtain ⟨H, g0, d, tk, os⟩ := s
  obtain ⟨hl, r⟩ := g
  have ix := AutoSeq1.idx_int
  have ff := fit h1 h2
  have nf : ¬ (items.isEmpty || x == 1) = true := by rw [h]; exact Bool.false_ne_true
  have z : (decide (x ≤ 0) || items.isEmpty) = true := by rw [decide_eq_true h0]; rfl
  wp_walk using AutoSeq1.wpAny_loadPart' hl
  repeat (first
    | (refine wpAny_ite_false (decide_eq_false ff) ?_; wp_walk using AutoSeq1.wpAny_loadPart' hl)
    | (refine wpAny_ite_false (decide_eq_false nf) ?_; wp_walk using AutoSeq1.wpAny_loadPart' hl)
    | (refine wpAny_ite_true (decide_eq_true z) ?_; wp_walk using AutoSeq1.wpAny_loadPart' hl))
  exact ⟨_, rfl, r⟩
section
variable {X : Cx}
/-- a tuple so many times, from none to a thousand -/
def rRepA (K : PySem.W.Frag) : R2 := fun x y H Q => ∃ l k xs, x = .ref l ∧ y = .int k ∧ SqT K H l xs ∧ -1000 ≤ k ∧ k ≤ 1000 ∧ xs.length ≤ 1000 ∧
  ((xs = [] ∨ k = 1) → Q (.ref l) H) ∧ (¬ (xs = [] ∨ k = 1) → ∀ p, H p = none → Q (.ref p) (upd H p (.tup (List.replicate k.toNat xs).flatten)))
theorem op_repA : OpR X (binaryOp .Mult) (rRepA X.K) := by
  rintro pins s σ H x y v u Q I rx ry ⟨l, k, xs, rfl, rfl, hT, h1, h2, hz, q1, q2⟩
  by_cases c : xs = [] ∨ k = 1
  · replace q1 := q1 c
    cases rx
    obtain ⟨t, rfl⟩ := ry
    obtain ⟨its, r, ⟨⟨cls, dd, data, sl⟩, ho, hc, n, hd⟩, hs⟩ := I.tuple hT
    simp only at hc hd
    subst hc hd
    have e : (its.toArray.isEmpty || k == 1) = true := by
      rcases c with c | c
      · subst c
        cases r
        rfl
      · subst c
        simp
    refine wpAny_binaryOp_repeat_ref (T := "tuple") (U := "int") (by decide) ⟨_, ho, rfl⟩ (fun s' => typeIs_int s' k t) noFill_tuple_mul F.fills_int_mul F.slot_int_rmul repeat_tuple F.slot_int_index.lookup
      (call_meets F.slot_int_rmul (typeIs_int s k t) F.entry_int_rmul (F.args_int_rmul_2 _ _) (int_rmul_tuple k t l its.toArray n dd sl)
        ⟨ho, rfl, ⟨_, ho, rfl⟩, call_meets F.slot_tuple_mul ⟨_, ho, rfl⟩ F.entry_tuple_mul (F.args_tuple_mul_2 _ _) (same l its.toArray n dd sl k t (by omega) (by omega) e) ⟨ho, ?_⟩⟩)
    exact ⟨.ref l, H, I, rfl, q1⟩
  · replace q2 := q2 c
    have hx : xs ≠ [] := fun z => c (.inl z)
    have hk : k ≠ 1 := fun z => c (.inr z)
    by_cases k0 : k ≤ 0
    · cases rx
      obtain ⟨t, rfl⟩ := ry
      obtain ⟨its, r, ⟨⟨cls, dd, data, sl⟩, ho, hc, n, hd⟩, hs⟩ := I.tuple hT
      simp only at hc hd
      subst hc hd
      have e : (its.toArray.isEmpty || k == 1) = false := by
        cases r with
        | nil => exact absurd rfl hx
        | cons a b => simp [hk]
      refine wpAny_binaryOp_repeat_ref (T := "tuple") (U := "int") (by decide) ⟨_, ho, rfl⟩ (fun s' => typeIs_int s' k t) noFill_tuple_mul F.fills_int_mul F.slot_int_rmul repeat_tuple F.slot_int_index.lookup
        (call_meets F.slot_int_rmul (typeIs_int s k t) F.entry_int_rmul (F.args_int_rmul_2 _ _) (int_rmul_tuple k t l its.toArray n dd sl)
          ⟨ho, rfl, ⟨_, ho, rfl⟩, call_meets F.slot_tuple_mul ⟨_, ho, rfl⟩ F.entry_tuple_mul (F.args_tuple_mul_2 _ _) (noneOf l its.toArray n dd sl k t (by omega) (by omega) e k0) ⟨ho, ?_⟩⟩)
      have ez : (List.replicate k.toNat xs).flatten = [] := by
        rw [show k.toNat = 0 by omega]; rfl
      rw [ez] at q2
      refine ⟨.ref s.heap.objs.size, _, I.laid (t' := s.toks) (o := .tup []) (fun b ob q => Heap.get?_push_of_some _ q) (Nat.le_refl _) ?_, rfl, q2 _ (I.hok.fresh (Nat.le_refl _))⟩
      exact ⟨by decide, [], .nil, IsTup.new _ _⟩
    · exact op_repT pins s σ H (.ref l) (.int k) v u Q I rx ry ⟨l, k, xs, rfl, rfl, hT, hx, by omega, h2, hz, q2⟩
end
end TMu
end L2

/-! DLe: operations. -/
namespace L2
namespace DL
open PySem PySem.Spec PyProof PyProof.Rows

/-! ### ints -/
def OnI (g : Int → Int → D) : DOp2 := fun x y S Q => match x, y with
  | .int i, .int j => Q (g i j) S
  | _, _ => False
theorem onI_low {K : PySem.W.Frag} {g : Int → Int → D} {gv : Int → Int → V} (hg : ∀ H i j, Rep K H (g i j) (gv i j)) : Low2 K (rI0 gv) (OnI g) := fun H S x y v w Q Qd rx ry rs h q => by
  unfold OnI at h
  split at h
  · cases rx; cases ry
    exact ⟨_, _, rfl, rfl, q _ S _ H h (hg H _ _) rs (Kept.refl H)⟩
  · exact h.elim
abbrev oSub : DOp2 := OnI fun i j => .int (i - j)
abbrev oLt : DOp2 := OnI fun i j => .bl (decide (i < j))
abbrev oLe : DOp2 := OnI fun i j => .bl (decide (i ≤ j))
abbrev oGt : DOp2 := OnI fun i j => .bl (decide (j < i))
abbrev oGe : DOp2 := OnI fun i j => .bl (decide (j ≤ i))
section
variable {X : Cx}
theorem io_sub : IsOp2 X (binaryOp .Sub) oSub := ⟨_, op_sub, onI_low fun _ _ _ => .int _⟩
theorem io_lt : IsOp2 X (compareOp .Lt) oLt := ⟨_, op_lt, onI_low fun _ _ _ => .bl _⟩
theorem io_le : IsOp2 X (compareOp .LtE) oLe := ⟨_, op_le, onI_low fun _ _ _ => .bl _⟩
theorem io_gt : IsOp2 X (compareOp .Gt) oGt := ⟨_, op_gt, onI_low fun _ _ _ => .bl _⟩
theorem io_ge : IsOp2 X (compareOp .GtE) oGe := ⟨_, op_ge, onI_low fun _ _ _ => .bl _⟩
end
def OnIC (C : Int → Int → Prop) (g : Int → Int → D) : DOp2 := fun x y S Q => match x, y with
  | .int i, .int j => C i j ∧ Q (g i j) S
  | _, _ => False
theorem onIC_low {K : PySem.W.Frag} {C : Int → Int → Prop} {g : Int → Int → D} {gv : Int → Int → V} (hg : ∀ H i j, Rep K H (g i j) (gv i j)) : Low2 K (rI C gv) (OnIC C g) := fun H S x y v w Q Qd rx ry rs h q => by
  unfold OnIC at h
  split at h
  · cases rx; cases ry
    exact ⟨_, _, rfl, rfl, h.1, q _ S _ H h.2 (hg H _ _) rs (Kept.refl H)⟩
  · exact h.elim
abbrev oMod : DOp2 := OnIC (fun _ j => j ≠ 0) fun i j => .int (i.fmod j)
abbrev oPow : DOp2 := OnIC CPow fun i j => .int (i ^ j.toNat)
abbrev oFdiv : DOp2 := OnIC (fun _ j => j ≠ 0) fun i j => .int (i.fdiv j)
/-- where a division of any size may be done -/
structure Seer (X : Cx) : Prop where
  fr : ∃ env l, X.stack = env :: l ∧ env.scope.isGenerator = false ∧ env.scope.isCoroutine = false ∧ env.builtins = builtinsNs ∧ env.globals = mainGlobals
  ns : X.base.NoSeer
  tr : X.prog.given.tree = none
  dp : X.A.depth + Builtin.pylongFrames < recursionLimit
theorem Seer.room {X : Cx} (h : Seer X) {pins : List (Addr × Obj)} {s : Shared} {σ : St} {H : Hp} (I : Inv X pins σ H s) : PySem.PylongRoom (model X.prog X.w) X.A s := by
  obtain ⟨env, l, hf, h1, h2, h3, h4⟩ := h.fr
  exact PySem.PylongRoom.of I.nolimit h.dp (PySem.SeerAt.of (h.ns.keeps I.bk) h.tr (I.ok.frames.trans (by rw [hf])) h1 h2 h3 h4)
theorem op_fdivA {X : Cx} (hs : Seer X) : OpR X (binaryOp .FloorDiv) (rI (fun _ j => j ≠ 0) fun i j => .int (i.fdiv j)) := by
  intro pins s σ H x y v u Q I rx ry h
  obtain ⟨i, j, rfl, rfl, hc, q⟩ := h
  obtain ⟨t, rfl⟩ := rx
  obtain ⟨t', rfl⟩ := ry
  exact floordiv_int hc ⟨.int (i.fdiv j), H, I.tok _, ⟨_, rfl⟩, q⟩ (.inr (hs.room I))
theorem iop_fdivA {X : Cx} (hs : Seer X) : OpR X (inplaceOp .FloorDiv) (rI (fun _ j => j ≠ 0) fun i j => .int (i.fdiv j)) := by
  intro pins s σ H x y v u Q I rx ry h
  obtain ⟨i, j, rfl, rfl, hc, q⟩ := h
  obtain ⟨t, rfl⟩ := rx
  obtain ⟨t', rfl⟩ := ry
  exact ifloordiv_int hc ⟨.int (i.fdiv j), H, I.tok _, ⟨_, rfl⟩, q⟩ (.inr (hs.room I))
section
variable {X : Cx}
theorem io_mod : IsOp2 X (binaryOp .Mod) oMod := ⟨_, op_modN, onIC_low fun _ _ _ => .int _⟩
theorem io_pow : IsOp2 X (binaryOp .Pow) oPow := ⟨_, op_pow, onIC_low fun _ _ _ => .int _⟩
theorem io_fdiv (h : Seer X) : IsOp2 X (binaryOp .FloorDiv) oFdiv := ⟨_, op_fdivA h, onIC_low fun _ _ _ => .int _⟩
end
def oNeg : DOp1 := fun x S Q => match x with
  | .int i => Q (.int (-i)) S
  | _ => False
theorem io_neg {X : Cx} : IsOp1 X (unaryOp .USub) oNeg := ⟨_, un_neg, fun H S x v Q Qd rx rs h q => by
  unfold oNeg at h
  split at h
  · cases rx
    exact ⟨_, rfl, q _ S _ H h (.int _) rs (Kept.refl H)⟩
  · exact h.elim⟩

/-! ### + and * -/
def oAdd : DOp2 := fun x y S Q => match x, y with
  | .int i, .int j => Q (.int (i + j)) S
  | .tup xs, .tup ys => xs.length + ys.length ≤ sizeLine ∧ Q (.tup (xs ++ ys)) S
  | .ref a, .ref b => ∃ xs ys, S a = some (.lst xs) ∧ S b = some (.lst ys) ∧ xs.length + ys.length ≤ sizeLine ∧ ∀ p, S p = none → Q (.ref p) (sup S p (.lst (xs ++ ys)))
  | .str a, .str b => a.length + b.length ≤ sizeLine ∧ Q (.str (a ++ b)) S
  | _, _ => False
theorem io_add {X : Cx} : IsOp2 X (binaryOp .Add) oAdd := by
  refine ⟨_, op_add.or (op_catA.or (op_cat.or op_add_str)), fun H S x y v w Q Qd rx ry rs h q => ?_⟩
  unfold oAdd at h
  split at h
  · cases rx; cases ry
    exact .inl ⟨_, _, rfl, rfl, q _ S _ H h (.int _) rs (Kept.refl H)⟩
  · rename_i ds es
    cases rx with
    | tup s1 r1 =>
      rename_i a xs
      cases ry with
      | tup s2 r2 =>
        rename_i b ys
        refine .inr (.inl ⟨_, _, _, _, rfl, rfl, s1, s2, by rw [r1.len, r2.len]; exact h.1, fun e => ?_, fun e1 e2 => ?_, fun e1 e2 p np => ?_⟩)
        · subst e
          cases r1
          exact q _ S _ H h.2 (.tup s2 r2) rs (Kept.refl H)
        · subst e2
          cases r2
          have h2 := h.2
          rw [List.append_nil] at h2
          exact q _ S _ H h2 (.tup s1 r1) rs (Kept.refl H)
        · exact q _ S _ _ h.2 (.tup (SqT.of upd_same) ((r1.append r2).mono (Kept.new np))) (rs.newT np) (Kept.new np)
  · cases rx; cases ry
    obtain ⟨ds, es, e1, e2, hz, k⟩ := h
    obtain ⟨xs, h1, r1⟩ := rs _ _ e1
    obtain ⟨ys, h2, r2⟩ := rs _ _ e2
    exact .inr (.inr (.inl ⟨_, _, _, _, rfl, rfl, h1, h2, by rw [r1.len, r2.len]; exact hz, fun p np => q _ _ _ _ (k p (rs.fresh np)) (.ref p) (rs.newL np (r1.append r2)) (Kept.new np)⟩))
  · cases rx; cases ry
    exact .inr (.inr (.inr ⟨_, _, rfl, rfl, h.1, q _ S _ H h.2 (.str _) rs (Kept.refl H)⟩))
  · exact h.elim
def oIadd : DOp2 := fun x y S Q => match x, y with
  | .int i, .int j => Q (.int (i + j)) S
  | .str a, .str b => a.length + b.length ≤ sizeLine ∧ Q (.str (a ++ b)) S
  | _, _ => False
theorem io_iadd {X : Cx} : IsOp2 X (inplaceOp .Add) oIadd := by
  refine ⟨_, iop_add.or iop_add_str, fun H S x y v w Q Qd rx ry rs h q => ?_⟩
  unfold oIadd at h
  split at h
  · cases rx; cases ry
    exact .inl ⟨_, _, rfl, rfl, q _ S _ H h (.int _) rs (Kept.refl H)⟩
  · cases rx; cases ry
    exact .inr ⟨_, _, rfl, rfl, h.1, q _ S _ H h.2 (.str _) rs (Kept.refl H)⟩
  · exact h.elim
theorem io_isub {X : Cx} : IsOp2 X (inplaceOp .Sub) oSub := ⟨_, iop_sub, onI_low fun _ _ _ => .int _⟩
theorem op_mulA {X : Cx} : OpR X (binaryOp .Mult) (rI IntMulOk fun i j => .int (i * j)) := opI fun _ _ _ _ _ _ _ hc q => mul_int q hc
theorem iop_mulA {X : Cx} : OpR X (inplaceOp .Mult) (rI IntMulOk fun i j => .int (i * j)) := opI fun _ _ _ _ _ _ _ hc q => imul_int q hc
def oMul : DOp2 := fun x y S Q => match x, y with
  | .int i, .int j => IntMulOk i j ∧ Q (.int (i * j)) S
  | .ref a, .int k => ∃ xs, S a = some (.lst xs) ∧ -(2 ^ 63) ≤ k ∧ k < 2 ^ 63 ∧ xs.length * k.toNat ≤ sizeLine ∧ ∀ p, S p = none → Q (.ref p) (sup S p (.lst (List.replicate k.toNat xs).flatten))
  | .tup xs, .int k => (-1000 ≤ k ∧ k ≤ 1000 ∧ xs.length ≤ 1000) ∧ Q (.tup (List.replicate k.toNat xs).flatten) S
  | _, _ => False
theorem io_mul {X : Cx} : IsOp2 X (binaryOp .Mult) oMul := by
  refine ⟨_, op_mulA.or (op_rep.or TMu.op_repA), fun H S x y v w Q Qd rx ry rs h q => ?_⟩
  unfold oMul at h
  split at h
  · cases rx; cases ry
    exact .inl ⟨_, _, rfl, rfl, h.1, q _ S _ H h.2 (.int _) rs (Kept.refl H)⟩
  · cases rx; cases ry
    obtain ⟨ds, e1, k1, k2, hz, k⟩ := h
    obtain ⟨xs, h1, r1⟩ := rs _ _ e1
    exact .inr (.inl ⟨_, _, _, rfl, rfl, h1, k1, k2, by rw [r1.len]; exact hz, fun p np => q _ _ _ _ (k p (rs.fresh np)) (.ref p) (rs.newL np (r1.rep _)) (Kept.new np)⟩)
  · rename_i ds k
    cases ry
    obtain ⟨⟨k1, k2, hz⟩, h⟩ := h
    cases rx with
    | tup sq rr =>
      rename_i a xs
      refine .inr (.inr ⟨a, k, xs, rfl, rfl, sq, k1, k2, by rw [rr.len]; exact hz, fun c => ?_, fun _ p np => q _ _ _ _ h (.tup (SqT.of upd_same) ((rr.rep k.toNat).mono (Kept.new np))) (rs.newT np) (Kept.new np)⟩)
      have e : (List.replicate k.toNat ds).flatten = ds := by
        rcases c with c | c
        · subst c
          cases rr
          generalize k.toNat = m
          induction m with
          | zero => rfl
          | succ m ih => rw [List.replicate_succ, List.flatten_cons, ih]; rfl
        · subst c
          show (List.replicate 1 ds).flatten = ds
          simp
      rw [e] at h
      exact q _ _ _ _ h (.tup sq rr) rs (Kept.refl H)
  · exact h.elim
theorem io_imul {X : Cx} : IsOp2 X (inplaceOp .Mult) (OnIC IntMulOk fun i j => .int (i * j)) := ⟨_, iop_mulA, onIC_low fun _ _ _ => .int _⟩

/-! ### == -/
mutual
def toPy : D → Option PyData
  | .non => some .none
  | .bl b => some (.bool b)
  | .int i => some (.int i)
  | .str x => some (.str x)
  | .ty _ => none
  | .ref _ => none
  | .tup xs => (toPys xs).map .tuple
  | .ltv _ => none
def toPys : List D → Option (List PyData)
  | [] => some []
  | x :: xs => match toPy x, toPys xs with
    | some a, some as => some (a :: as)
    | _, _ => none
end
mutual
theorem dp_of {K : PySem.W.Frag} {H : Hp} : ∀ {d : D} {v : V} {p : PyData}, Rep K H d v → toPy d = some p → Dp K H v p
  | _, _, _, .non, e => by cases e; exact .non
  | _, _, _, .bl b, e => by cases e; exact .bl b
  | _, _, _, .int i, e => by cases e; exact .int i
  | _, _, _, .str x, e => by cases e; exact .str x
  | _, _, _, .ty n, e => by cases e
  | _, _, _, .ref a, e => by cases e
  | _, _, _, .ltv _ _, e => by cases e
  | .tup ds, _, p, .tup s r, e => by
    simp only [toPy] at e
    cases e2 : toPys ds with
    | none => rw [e2] at e; cases e
    | some ps =>
      rw [e2] at e
      cases e
      exact .tup s (dps_of r e2)
theorem dps_of {K : PySem.W.Frag} {H : Hp} : ∀ {ds : List D} {vs : List V} {ps : List PyData}, Reps K H ds vs → toPys ds = some ps → DpAll K H vs ps
  | _, _, _, .nil, e => by cases e; exact .nil
  | d :: ds, _, _, .cons r t, e => by
    simp only [toPys] at e
    cases e1 : toPy d with
    | none => rw [e1] at e; cases e
    | some a =>
      cases e2 : toPys ds with
      | none => rw [e1, e2] at e; cases e
      | some as =>
        rw [e1, e2] at e
        cases e
        exact .cons (dp_of r e1) (dps_of t e2)
end
def oEq : DOp2 := fun x y S Q => ∃ a b, toPy x = some a ∧ toPy y = some b ∧ SeqAt.shaped a = true ∧ SeqAt.shaped b = true ∧ Q (.bl (PyData.eqv a b)) S
def oNe : DOp2 := fun x y S Q => ∃ a b, toPy x = some a ∧ toPy y = some b ∧ SeqAt.shaped a = true ∧ SeqAt.shaped b = true ∧ Q (.bl (!PyData.eqv a b)) S
theorem io_eq {X : Cx} (hu : X.A.units + 64 < cLine) : IsOp2 X (compareOp .Eq) oEq := ⟨_, op_eqD hu, fun H S x y v w Q Qd rx ry rs ⟨a, b, ea, eb, sa, sb, h⟩ q =>
  ⟨a, b, dp_of rx ea, dp_of ry eb, sa, sb, q _ S _ H h (.bl _) rs (Kept.refl H)⟩⟩
theorem io_ne {X : Cx} (hu : X.A.units + 64 < cLine) : IsOp2 X (compareOp .NotEq) oNe := ⟨_, op_neD hu, fun H S x y v w Q Qd rx ry rs ⟨a, b, ea, eb, sa, sb, h⟩ q =>
  ⟨a, b, dp_of rx ea, dp_of ry eb, sa, sb, q _ S _ H h (.bl _) rs (Kept.refl H)⟩⟩
theorem oEq_int {i j : Int} {S : Sto} {Q : DK} (h : Q (.bl (decide (i = j))) S) : oEq (.int i) (.int j) S Q := ⟨_, _, rfl, rfl, rfl, rfl, h⟩
theorem oNe_int {i j : Int} {S : Sto} {Q : DK} (h : Q (.bl (!decide (i = j))) S) : oNe (.int i) (.int j) S Q := ⟨_, _, rfl, rfl, rfl, rfl, h⟩

abbrev oEqI : DOp2 := OnI fun i j => .bl (decide (i = j))
abbrev oNeI : DOp2 := OnI fun i j => .bl (!decide (i = j))
theorem io_eqI {X : Cx} : IsOp2 X (compareOp .Eq) oEqI := ⟨_, op_eq, fun H S x y v w Q Qd rx ry rs h q => by
  unfold oEqI OnI at h
  split at h
  · cases rx; cases ry
    refine ⟨rfl, ?_⟩
    have e : ∀ i j : Int, decide (V.int i = V.int j) = decide (i = j) := fun i j => by simp
    rw [e]
    exact q _ S _ H h (.bl _) rs (Kept.refl H)
  · exact h.elim⟩
theorem io_neI {X : Cx} : IsOp2 X (compareOp .NotEq) oNeI := ⟨_, op_ne, fun H S x y v w Q Qd rx ry rs h q => by
  unfold oNeI OnI at h
  split at h
  · cases rx; cases ry
    refine ⟨rfl, ?_⟩
    have e : ∀ i j : Int, decide (V.int i = V.int j) = decide (i = j) := fun i j => by simp
    rw [e]
    exact q _ S _ H h (.bl _) rs (Kept.refl H)
  · exact h.elim⟩

/-! ### built-ins -/
def tyName (x : D) (S : Sto) : Option String := match x with
  | .non => some "NoneType"
  | .bl _ => some "bool"
  | .int _ => some "int"
  | .str _ => some "str"
  | .tup _ => some "tuple"
  | .ltv _ => some "list"
  | .ref a => match S a with
    | some (.lst _) => some "list"
    | some (.ro _) => some "list"
    | _ => none
  | .ty _ => none
theorem tyX_of {K : PySem.W.Frag} {S : Sto} {H : Hp} {x : D} {v : V} {t : String} (r : Rep K H x v) (rs : RelS K S H) (e : tyName x S = some t) : TyX K H v (.type t) := by
  cases r with
  | non => cases e; exact .base .non
  | bl b => cases e; exact .base (.bl b)
  | int i => cases e; exact .base (.int i)
  | str x => cases e; exact .base (.str x)
  | ty n => cases e
  | ref a =>
    simp only [tyName] at e
    split at e
    · rename_i ds eS
      cases e
      obtain ⟨xs, h, _⟩ := rs a _ eS
      exact .base (.lst h)
    · rename_i ds eS
      cases e
      obtain ⟨xs, h, _⟩ := rs a _ eS
      rcases h with h | ⟨o, h⟩
      · exact .base (.lst h)
      · exact .base (.frz h)
    · cases e
  | tup s r =>
    cases e
    rcases s with (h | ⟨o, h⟩) | ⟨o, its, n, h, hc, _⟩
    · exact .base (.tup h)
    · exact .fTuple h
    · exact .kTuple h hc
  | ltv s r =>
    cases e
    rcases s with ⟨o, h⟩ | ⟨o, its, n, h, hc, _⟩
    · exact .base (.frz h)
    · exact .kList h hc
def oIsi : DCall := fun xs S Q => match xs with
  | [x, .ty n] => ∃ t b, tyName x S = some t ∧ kitB t n = some b ∧ Q (.bl b) S
  | _ => False
theorem ic_isi {X : Cx} : IsCall X (.builtin "isinstance") oIsi := ⟨_, call_isi, fun H S xs vs Q Qd r rs h q => by
  unfold oIsi at h
  split at h
  · rename_i x n
    obtain ⟨t, b, et, ek, h⟩ := h
    cases r with
    | cons rx r =>
      cases r with
      | cons ry r =>
        cases r
        cases ry
        exact ⟨_, _, _, _, b, rfl, .ty n, tyX_of rx rs et, kit_ty ek, q _ S _ H h (.bl b) rs (Kept.refl H)⟩
  · exact h.elim⟩
def oLen : DCall := fun xs S Q => match xs with
  | [.tup ds] => Q (.int ds.length) S
  | [.ltv ds] => Q (.int ds.length) S
  | [.ref a] => ∃ ds, rdL S a ds ∧ Q (.int ds.length) S
  | [.str z] => z.length ≤ sizeLine ∧ Q (.int z.length) S
  | _ => False
theorem ic_len {X : Cx} : IsCall X (.builtin "len") oLen := ⟨_, call_len_seq.or call_len_str, fun H S xs vs Q Qd r rs h q => by
  unfold oLen at h
  split at h
  · cases r with
    | cons rx r =>
      cases r
      cases rx with
      | tup s r =>
        refine .inl ⟨_, _, rfl, .inr s, ?_⟩
        rw [r.len]
        exact q _ S _ H h (.int _) rs (Kept.refl H)
  · cases r with
    | cons rx r =>
      cases r
      cases rx with
      | ltv s r =>
        refine .inl ⟨_, _, rfl, .inl s.sq, ?_⟩
        rw [r.len]
        exact q _ S _ H h (.int _) rs (Kept.refl H)
  · cases r with
    | cons rx r =>
      cases r
      cases rx
      obtain ⟨ds, hr, h⟩ := h
      obtain ⟨ys, sq, r⟩ := rs.rd hr
      refine .inl ⟨_, _, rfl, .inl sq, ?_⟩
      rw [r.len]
      exact q _ S _ H h (.int _) rs (Kept.refl H)
  · cases r with
    | cons rx r =>
      cases r
      cases rx
      exact .inr ⟨_, rfl, h.1, q _ S _ H h.2 (.int _) rs (Kept.refl H)⟩
  · exact h.elim⟩
def oAbs : DCall := fun xs S Q => match xs with
  | [.int i] => Q (.int (if i < 0 then -i else i)) S
  | _ => False
theorem ic_abs {X : Cx} : IsCall X (.builtin "abs") oAbs := ⟨_, call_abs, fun H S xs vs Q Qd r rs h q => by
  unfold oAbs at h
  split at h
  · cases r with
    | cons rx r =>
      cases r
      cases rx
      exact ⟨_, rfl, q _ S _ H h (.int _) rs (Kept.refl H)⟩
  · exact h.elim⟩
def o2I (g : Int → Int → Int) : DCall := fun xs S Q => match xs with
  | [.int i, .int j] => Q (.int (g i j)) S
  | _ => False
theorem low_2I {K : PySem.W.Frag} {g : Int → Int → Int} : LowC K (fun xs H Q => ∃ i j, xs = [.int i, .int j] ∧ Q (.int (g i j)) H) (o2I g) := fun H S xs vs Q Qd r rs h q => by
  unfold o2I at h
  split at h
  · cases r with
    | cons rx r =>
      cases r with
      | cons ry r =>
        cases r
        cases rx
        cases ry
        exact ⟨_, _, rfl, q _ S _ H h (.int _) rs (Kept.refl H)⟩
  · exact h.elim
abbrev oMax : DCall := o2I fun i j => if j > i then j else i
abbrev oMin : DCall := o2I fun i j => if j < i then j else i
theorem ic_max {X : Cx} (hc : X.calm = true) : IsCall X (.builtin "max") oMax := ⟨_, call_max2 hc, low_2I⟩
theorem ic_min {X : Cx} (hc : X.calm = true) : IsCall X (.builtin "min") oMin := ⟨_, call_min2 hc, low_2I⟩
def oInt : DCall := fun xs S Q => match xs with
  | [.int i] => Q (.int i) S
  | [.bl k] => Q (.int (if k then 1 else 0)) S
  | _ => False
theorem ic_int {X : Cx} : IsCall X (.type "int") oInt := ⟨_, call_int1, fun H S xs vs Q Qd r rs h q => by
  unfold oInt at h
  split at h
  · cases r with
    | cons rx r =>
      cases r
      cases rx
      exact .inl ⟨_, rfl, q _ S _ H h (.int _) rs (Kept.refl H)⟩
  · cases r with
    | cons rx r =>
      cases r
      cases rx
      exact .inr ⟨_, rfl, q _ S _ H h (.int _) rs (Kept.refl H)⟩
  · exact h.elim⟩
def oTuple : DCall := fun xs S Q => match xs with
  | [.tup ds] => Q (.tup ds) S
  | [.ref a] => ∃ ds, rdL S a ds ∧ Q (.tup ds) S
  | _ => False
theorem ic_tuple {X : Cx} : IsCall X (.type "tuple") oTuple := ⟨_, call_tuple_of, fun H S xs vs Q Qd r rs h q => by
  unfold oTuple at h
  split at h
  · cases r with
    | cons rx r =>
      cases r
      cases rx with
      | tup s r => exact ⟨_, _, rfl, .inr ⟨s, q _ S _ H h (.tup s r) rs (Kept.refl H)⟩⟩
  · cases r with
    | cons rx r =>
      cases r
      cases rx
      obtain ⟨ds, hr, h⟩ := h
      obtain ⟨ys, sq, r⟩ := rs.rd hr
      exact ⟨_, _, rfl, .inl ⟨sq, fun p np => q _ S _ _ h (.tup (SqT.of upd_same) (r.mono (Kept.new np))) (rs.newT np) (Kept.new np)⟩⟩
  · exact h.elim⟩
def oList : DCall := fun xs S Q => match xs with
  | [.tup ds] => ∀ p, S p = none → Q (.ref p) (sup S p (.lst ds))
  | [.ref a] => ∃ ds, rdL S a ds ∧ ∀ p, S p = none → Q (.ref p) (sup S p (.lst ds))
  | _ => False
theorem ic_list {X : Cx} : IsCall X (.type "list") oList := ⟨_, call_list_of, fun H S xs vs Q Qd r rs h q => by
  unfold oList at h
  split at h
  · cases r with
    | cons rx r =>
      cases r
      cases rx with
      | tup s r => exact ⟨_, _, rfl, .inr s, fun p np => q _ _ _ _ (h p (rs.fresh np)) (.ref p) (rs.newL np r) (Kept.new np)⟩
  · cases r with
    | cons rx r =>
      cases r
      cases rx
      obtain ⟨ds, hr, h⟩ := h
      obtain ⟨ys, sq, r⟩ := rs.rd hr
      exact ⟨_, _, rfl, .inl sq, fun p np => q _ _ _ _ (h p (rs.fresh np)) (.ref p) (rs.newL np r) (Kept.new np)⟩
  · exact h.elim⟩
def bools : List D → Option (List Bool)
  | [] => some []
  | .bl b :: ds => (bools ds).map (b :: ·)
  | _ => none
theorem bools_rep {K : PySem.W.Frag} {H : Hp} : ∀ {ds : List D} {xs : List V} {bs : List Bool}, Reps K H ds xs → bools ds = some bs → xs = bs.map V.bl
  | _, _, _, .nil, e => by cases e; rfl
  | _, _, _, .cons (.bl b) t, e => by
    simp only [bools, Option.map_eq_some_iff] at e
    obtain ⟨bs, e1, rfl⟩ := e
    rw [bools_rep t e1]; rfl
  | _, _, _, .cons .non t, e => by cases e
  | _, _, _, .cons (.int _) t, e => by cases e
  | _, _, _, .cons (.str _) t, e => by cases e
  | _, _, _, .cons (.ty _) t, e => by cases e
  | _, _, _, .cons (.ref _) t, e => by cases e
  | _, _, _, .cons (.tup _ _) t, e => by cases e
  | _, _, _, .cons (.ltv _ _) t, e => by cases e
def oAll : DCall := fun xs S Q => match xs with
  | [.ref a] => ∃ ds bs, rdL S a ds ∧ bools ds = some bs ∧ Q (.bl (bs.all id)) S
  | _ => False
theorem ic_all {X : Cx} (hc : X.calm = true) : IsCall X (.builtin "all") oAll := ⟨_, cr_all hc, fun H S xs vs Q Qd r rs h q => by
  unfold oAll at h
  split at h
  · cases r with
    | cons rx r =>
      cases r
      cases rx
      obtain ⟨ds, bs, hr, hb, h⟩ := h
      obtain ⟨ys, sq, r⟩ := rs.rd hr
      rw [bools_rep r hb] at sq
      exact ⟨_, _, rfl, sq, q _ S _ H h (.bl _) rs (Kept.refl H)⟩
  · exact h.elim⟩
def oAny : DCall := fun xs S Q => match xs with
  | [.ref a] => ∃ ds bs, rdL S a ds ∧ bools ds = some bs ∧ Q (.bl (bs.any id)) S
  | _ => False
theorem ic_any {X : Cx} (hc : X.calm = true) : IsCall X (.builtin "any") oAny := ⟨_, cr_any hc, fun H S xs vs Q Qd r rs h q => by
  unfold oAny at h
  split at h
  · cases r with
    | cons rx r =>
      cases r
      cases rx
      obtain ⟨ds, bs, hr, hb, h⟩ := h
      obtain ⟨ys, sq, r⟩ := rs.rd hr
      rw [bools_rep r hb] at sq
      exact ⟨_, _, rfl, sq, q _ S _ H h (.bl _) rs (Kept.refl H)⟩
  · exact h.elim⟩
/-- a type as a value: isinstance(x, int) -/
theorem ie_ty {X : Cx} {x : Str} {n : String} {pos : Pos} (hm : X.mg x = none) (hg : Gl X x := by rfl) (hv : bootBuiltins x = some (.type n) := by decide +kernel) (hn : x ≠ "__name__" := by decide) (hd : (x == ("__debug__" : Str)) = false := by decide) : IsE X (.Name x pos) (eC (.ty n)) :=
  ie_c (pe_bltn (v := .ty n) hg hm hv rfl hn hd) fun _ => .ty n

/-! ### subscripts, slices -/
def ix (xs : List D) (i : Int) : Option D := if 0 ≤ i then (if i < xs.length then xs[i.toNat]? else none) else if -(xs.length : Int) ≤ i then xs[(i + xs.length).toNat]? else none
theorem ix_atI {K : PySem.W.Frag} {H : Hp} {ds : List D} {vs : List V} {i : Int} {d : D} (r : Reps K H ds vs) (e : ix ds i = some d) : ∃ v, atI vs i = some v ∧ Rep K H d v := by
  have l := r.len
  unfold ix at e
  unfold atI ixN
  rw [l]
  split at e
  · rw [if_pos ‹_›]
    split at e
    · rw [if_pos ‹_›]
      exact r.get e
    · cases e
  · rw [if_neg ‹_›]
    split at e
    · rw [if_pos ‹_›]
      exact r.get e
    · cases e
def oIx : DOp2 := fun x y S Q => match x, y with
  | .tup ds, .int i => match ix ds i with
    | some d => Q d S
    | none => False
  | .ltv ds, .int i => match ix ds i with
    | some d => Q d S
    | none => False
  | .ref a, .int i => ∃ ds, rdL S a ds ∧ match ix ds i with
    | some d => Q d S
    | none => False
  | .str z, .int i => ∃ c, z.length ≤ sizeLine ∧ atI z.cps.toList i = some c ∧ Q (.str ⟨#[c]⟩) S
  | _, _ => False
theorem ix_low {K : PySem.W.Frag} : Low2 K (rIx K) oIx := fun H S x y v w Q Qd rx ry rs h q => by
  unfold oIx at h
  split at h
  · cases ry
    cases rx with
    | tup s r =>
      split at h
      · rename_i d e
        obtain ⟨v, ea, rv⟩ := ix_atI r e
        exact .inr (.inl ⟨_, _, _, v, rfl, rfl, s, ea, q _ S _ H h rv rs (Kept.refl H)⟩)
      · exact h.elim
  · cases ry
    cases rx with
    | ltv s r =>
      split at h
      · rename_i d e
        obtain ⟨v, ea, rv⟩ := ix_atI r e
        exact .inl ⟨_, _, _, v, rfl, rfl, s.sq, ea, q _ S _ H h rv rs (Kept.refl H)⟩
      · exact h.elim
  · cases ry
    cases rx
    obtain ⟨ds, hr, h⟩ := h
    obtain ⟨ys, sq, r⟩ := rs.rd hr
    split at h
    · rename_i d e
      obtain ⟨v, ea, rv⟩ := ix_atI r e
      exact .inl ⟨_, _, _, v, rfl, rfl, sq, ea, q _ S _ H h rv rs (Kept.refl H)⟩
    · exact h.elim
  · cases ry
    cases rx
    obtain ⟨c, hz, ea, h⟩ := h
    exact .inr (.inr ⟨_, _, c, rfl, rfl, hz, ea, q _ S _ H h (.str _) rs (Kept.refl H)⟩)
  · exact h.elim
theorem ie_ix {X : Cx} {a b : Expr} {ta tb : DE} {pos : Pos} (ha : IsE X a ta) (hb : IsE X b tb) (hs : PlainIx b := by exact fun _ _ => rfl) : IsE X (.Subscript a b pos) (eBin oIx ta tb) := fun EX W tk =>
  pe_imp (pe_ix ix_seq (ha EX W tk) (hb EX W tk) hs) (low_bin ix_low)
def oSet : DSet := fun x y z S Q => match x, y with
  | .ref a, .int k => ∃ xs j, S a = some (.lst xs) ∧ ixN xs.length k = some j ∧ Q (sup S a (.lst (xs.set j z)))
  | _, _ => False
theorem set_low {K : PySem.W.Frag} : LowSet K rSetL oSet := fun H S x y z v w u Q Qd rx ry rz rs h q => by
  unfold oSet at h
  split at h
  · cases rx; cases ry
    obtain ⟨ds, j, e, hj, h⟩ := h
    obtain ⟨xs, h1, r1⟩ := rs _ _ e
    exact ⟨_, _, _, j, rfl, rfl, h1, by rw [r1.len]; exact hj, q _ _ h (rs.setL h1 (Reps.set rz j r1)) (Kept.mut h1 nimm_lst)⟩
  · exact h.elim
theorem ist_set {X : Cx} : IsSet X oSet := ⟨_, set_list, set_low⟩
/-- an item of a list by values -/
theorem pget_list {X : Cx} : PGet X (rIxL X.K) := by
  rintro pins s σ H x y v u Q I rx ry ⟨p, xs, i, z, rfl, rfl, hq, he, q⟩
  cases rx
  obtain ⟨t, rfl⟩ := ry
  obtain ⟨its, r, pl, hz⟩ := I.list hq
  obtain ⟨j, h1, h2, h3, h4, h5⟩ := atI_get he
  obtain ⟨w, ew, rw'⟩ := r.get h2
  have hl := r.length
  have hn := line63
  have done : EP X pins σ Q w s := ⟨z, H, I, rw', q⟩
  rcases Int.lt_or_le i 0 with h0 | h0
  · rw [seqIndex_neg h0 h4] at h1
    have hj := Option.some.inj h1
    refine wpAny_getItem_list_neg pl.isList h0 (by rw [List.size_toArray] <;> omega) (by omega) ?_ done
    rw [List.size_toArray, ← hl, hj]
    simpa using ew
  · rw [seqIndex_of h0 h5] at h1
    have hj := Option.some.inj h1
    refine wpAny_getItem_list pl.isList h0 (by omega) ?_ done
    rw [hj]
    simpa using ew
/-- x[y] op= e, x a list -/
def sAugS (a b e : DE) (o : DOp2) : DS := fun EX T δ S => a EX δ S fun x S1 => b EX δ S1 fun y S2 => match x, y with
  | .ref p, .int i => ∃ ds, rdL S2 p ds ∧ match ix ds i with
    | some z => e EX δ S2 fun w S4 => o z w S4 fun r S5 => oSet (.ref p) (.int i) r S5 fun S6 => T.nx δ S6
    | none => False
  | _, _ => False
theorem is_augS {X : Cx} {a b e : Expr} {ta tb te : DE} {op : Operator} {o : DOp2} {tpos pos : Pos} (ha : IsE X a ta) (hb : IsE X b tb) (he : IsE X e te) (ho : IsOp2 X (inplaceOp op) o)
    (hs : ∀ ov iv new, augStore b ov iv new = (do holding [new, ov, iv] (setItem ov iv new); release [new, ov, iv] []; pure .next) := by intros; rfl) : IsS X (.AugAssign (.Subscript a b tpos) op e pos) (sAugS ta tb te o) := fun EX W tk => by
  obtain ⟨r, hr, lo⟩ := ho
  refine ps_imp (ps_augS (tget := rIxL X.K) (tip := fun x y H Q => r x y H Q) (tset := rSetL) (ha EX W tk) (hb EX W tk) pget_list (he EX W tk) (fun pins s σ H x y v u Q I rx ry h => hr pins s σ H x y v u Q I rx ry h) set_list hs) fun T σ H ⟨δ, S, Dd, rl, rs, h, U⟩ => ?_
  refine ⟨δ, S, _, rl, rs, h, fun x S1 xv H1 h1 rx rs1 k1 => ⟨δ, S1, _, rl.mono k1, rs1, h1, fun y S2 yv H2 h2 ry rs2 k2 => ?_⟩⟩
  split at h2
  · rename_i p i
    cases rx
    cases ry
    obtain ⟨ds, hd, h2⟩ := h2
    obtain ⟨ys, sq, rr⟩ := rs2.rd hd
    split at h2
    · rename_i z ez
      obtain ⟨zv, ea, rz⟩ := ix_atI rr ez
      exact ⟨_, _, _, zv, rfl, rfl, sq, ea, δ, S2, _, (rl.mono k1).mono k2, rs2, h2, fun w S4 wv H4 h4 rw' rs4 k4 => lo H4 S4 z w zv wv _ _ (rz.mono k4) rw' rs4 h4 fun d S5 dv H5 h5 rd rs5 k5 =>
        set_low H5 S5 (.ref p) (.int i) d _ _ dv _ _ (.ref p) (.int i) rd rs5 h5 fun S6 H6 h6 rs6 k6 =>
          U.nx δ S6 σ H6 h6 (((((rl.mono k1).mono k2).mono k4).mono k5).mono k6) rs6 ((((k1.trans k2).trans k4).trans k5).trans k6)⟩
    · exact h2.elim
  · exact h2.elim
def cutD (xs : List D) (lo hi : Option Int) : List D := (xs.drop (HT.sIx xs.length 0 lo)).take (HT.sIx xs.length xs.length hi - HT.sIx xs.length 0 lo)
theorem cut_rep {K : PySem.W.Frag} {H : Hp} {ds : List D} {vs : List V} {lo hi : Option Int} (r : Reps K H ds vs) : Reps K H (cutD ds lo hi) (cutV vs lo hi) := by
  unfold cutD cutV
  rw [r.len]
  exact (r.drop _).take _
abbrev DPart := EXK → DSt → Sto → (Option Int → Sto → Prop) → Prop
def upP (K : PySem.W.Frag) (EX : EXK) (W : WX) (t : DPart) : TO := fun σ H Q => ∃ δ S Qd, RepL K EX W H δ σ ∧ RelS K S H ∧ t EX δ S Qd ∧ ∀ o S' H', Qd o S' → RelS K S' H' → Kept H H' → Q o H'
def IsP (X : Cx) (e : Option Expr) (t : DPart) : Prop := ∀ EX W, Takes X W → PO X e (upP X.K EX W t)
def pNone : DPart := fun _ _ S Q => Q none S
def pSome (e : DE) : DPart := fun EX δ S Q => e EX δ S fun d S1 => match d with
  | .int i => Q (some i) S1
  | _ => False
theorem po_imp {X : Cx} {e : Option Expr} {t t' : TO} (h : PO X e t) (f : ∀ σ H Q, t' σ H Q → t σ H Q) : PO X e t' := ⟨fun pins s σ H Q I q => h.run pins s σ H Q I (f σ H Q q)⟩
theorem ip_none {X : Cx} : IsP X none pNone := fun EX W tk => po_imp po_none fun σ H Q ⟨δ, S, Qd, rl, rs, h, q⟩ => q none S H h rs (Kept.refl H)
theorem ip_some {X : Cx} {e : Expr} {te : DE} (h : IsE X e te) : IsP X (some e) (pSome te) := fun EX W tk => po_imp (po_some (h EX W tk)) fun σ H Q ⟨δ, S, Qd, rl, rs, h, q⟩ => ⟨δ, S, _, rl, rs, h, fun d S1 v H1 h1 rv rs1 k1 => by
  cases rv with
  | int i => exact ⟨i, rfl, q _ S1 H1 h1 rs1 k1⟩
  | _ => exact (show False from h1).elim⟩
def cSl (x : D) (lo hi : Option Int) (S : Sto) (Q : DK) : Prop := match x with
  | .tup ds => Q (.tup (cutD ds lo hi)) S
  | .ref a => ∃ ds, rdL S a ds ∧ ∀ p, S p = none → Q (.ref p) (sup S p (.lst (cutD ds lo hi)))
  | _ => False
def eSl (e : DE) (l h : DPart) : DE := fun EX δ S Q => e EX δ S fun x S1 => l EX δ S1 fun lo S2 => h EX δ S2 fun hi S3 => cSl x lo hi S3 Q
theorem ie_sl {X : Cx} {e : Expr} {lo hi : Option Expr} {te : DE} {tl th : DPart} {p2 pos : Pos} (he : IsE X e te) (hl : IsP X lo tl) (hu : IsP X hi th) : IsE X (.Subscript e (.Slice lo hi none p2) pos) (eSl te tl th) := fun EX W tk =>
  pe_imp (pe_slice (SlR.or sl_tupA sl_list) (he EX W tk) (hl EX W tk) (hu EX W tk)) fun σ H Q ⟨δ, S, Qd, rl, rs, h, q⟩ => ⟨δ, S, _, rl, rs, h, fun x S1 v H1 h1 rv rs1 k1 => ⟨δ, S1, _, rl.mono k1, rs1, h1, fun o S2 H2 h2 rs2 k2 => ⟨δ, S2, _, (rl.mono k1).mono k2, rs2, h2, fun o2 S3 H3 h3 rs3 k3 => by
    have rx := (rv.mono k2).mono k3
    have kk := (k1.trans k2).trans k3
    unfold cSl at h3
    split at h3
    · cases rx with
      | tup s r =>
        refine .inl ⟨_, _, rfl, s, fun e => ?_, fun _ p np => q _ S3 _ _ h3 (.tup (SqT.of upd_same) ((cut_rep r).mono (Kept.new np))) (rs3.newT np) (kk.trans (Kept.new np))⟩
        have e2 := cut_rep (lo := o) (hi := o2) r
        unfold cutV at e2
        rw [e.1, e.2, List.drop_zero, Nat.sub_zero, List.take_length] at e2
        exact q _ S3 _ H3 h3 (.tup s e2) rs3 kk
    · cases rx
      obtain ⟨ds, hr, h3⟩ := h3
      obtain ⟨ys, sq, r⟩ := rs3.rd hr
      exact .inr ⟨_, _, rfl, sq, fun p np => q _ _ _ _ (h3 p (rs3.fresh np)) (.ref p) (rs3.newL np (cut_rep r)) (kk.trans (Kept.new np))⟩
    · exact h3.elim⟩⟩⟩

/-! ### methods of lists -/
abbrev DMt := D → List D → Sto → DK → Prop
def isL (x : D) (S : Sto) : Prop := match x with
  | .ref a => ∃ ds, rdL S a ds
  | _ => False
def LowM (K : PySem.W.Frag) (r : V → List V → Hp → VK → Prop) (o : DMt) : Prop := ∀ (H : Hp) (S : Sto) (x : D) (v : V) (xs : List D) (vs : List V) (Q : VK) (Qd : DK), Rep K H x v → Reps K H xs vs → RelS K S H → o x xs S Qd →
  (∀ d S' u H', Qd d S' → Rep K H' d u → RelS K S' H' → Kept H H' → Q u H') → r v vs H Q
theorem tyL_of {K : PySem.W.Frag} {S : Sto} {H : Hp} {x : D} {v : V} (r : Rep K H x v) (rs : RelS K S H) (h : isL x S) : tyV K "list" v H := by
  cases r with
  | ref a =>
    obtain ⟨ds, hr⟩ := h
    obtain ⟨ys, sq, _⟩ := rs.rd hr
    exact .inl ⟨rfl, _, sq⟩
  | _ => exact (show False from h).elim
def eM (o : DMt) (a : DE) (t : DA) : DE := fun EX δ S Q => a EX δ S fun x S1 => isL x S1 ∧ t EX δ S1 fun xs S2 => o x xs S2 Q
def eM0 (o : DMt) (a : DE) : DE := fun EX δ S Q => a EX δ S fun x S1 => isL x S1 ∧ o x [] S1 Q
theorem low_m {K : PySem.W.Frag} {EX : EXK} {W : WX} {r : V → List V → Hp → VK → Prop} {o : DMt} {ta : DE} {t : DA} (lo : LowM K r o) : ∀ σ H Q, upE K EX W (eM o ta t) σ H Q → tBM K "list" r (upE K EX W ta) (upA K EX W t) σ H Q := fun σ H Q ⟨δ, S, Qd, rl, rs, h, q⟩ =>
  ⟨δ, S, _, rl, rs, h, fun x S1 v H1 ⟨hl, h1⟩ rv rs1 k1 => ⟨tyL_of rv rs1 hl, δ, S1, _, rl.mono k1, rs1, h1, fun xs S2 vs H2 h2 rvs rs2 k2 => lo H2 S2 x v xs vs Q Qd (rv.mono k2) rvs rs2 h2 fun d S' u H' hq r' rs' k' => q d S' u H' hq r' rs' ((k1.trans k2).trans k')⟩⟩
theorem low_m0 {K : PySem.W.Frag} {EX : EXK} {W : WX} {r : V → List V → Hp → VK → Prop} {o : DMt} {ta : DE} (lo : LowM K r o) : ∀ σ H Q, upE K EX W (eM0 o ta) σ H Q → tBM0 K "list" r (upE K EX W ta) σ H Q := fun σ H Q ⟨δ, S, Qd, rl, rs, h, q⟩ =>
  ⟨δ, S, _, rl, rs, h, fun x S1 v H1 ⟨hl, h1⟩ rv rs1 k1 => ⟨tyL_of rv rs1 hl, lo H1 S1 x v [] [] Q Qd rv .nil rs1 h1 fun d S' u H' hq r' rs' k' => q d S' u H' hq r' rs' (k1.trans k')⟩⟩
def oAppend : DMt := fun x xs S Q => match x, xs with
  | .ref a, [d] => ∃ ds, S a = some (.lst ds) ∧ ds.length < sizeLine ∧ Q .non (sup S a (.lst (ds ++ [d])))
  | _, _ => False
theorem append_low {K : PySem.W.Frag} : LowM K rAppend oAppend := fun H S x v xs vs Q Qd rx rxs rs h q => by
  unfold oAppend at h
  split at h
  · cases rx
    cases rxs with
    | cons r t =>
      cases t
      obtain ⟨ds, e, hz, h⟩ := h
      obtain ⟨ys, h1, r1⟩ := rs _ _ e
      exact ⟨_, _, _, rfl, rfl, h1, by rw [r1.len]; exact hz, q _ _ _ _ h .non (rs.setL h1 (r1.append (.one r))) (Kept.mut h1 nimm_lst)⟩
  · exact h.elim
def flatD : D → Bool
  | .non => true
  | .bl _ => true
  | .int _ => true
  | .str _ => true
  | _ => false
def eqFlat : D → D → Bool
  | .non, .non => true
  | .bl a, .bl b => a == b
  | .bl a, .int b => (if a then 1 else 0) == b
  | .int a, .bl b => a == (if b then 1 else 0)
  | .int a, .int b => a == b
  | .str a, .str b => a == b
  | _, _ => false
/-- a method of lists -/
structure MtK (X : Cx) (name : Str) (o : DMt) : Prop where
  ex : ∃ (id : String) (r : V → List V → Hp → VK → Prop), Slot "list" name id ∧ typeOf (.builtin id) = pure (.type "method_descriptor") ∧ MtR X id r ∧ LowM X.K r o
section
variable {X : Cx} {name : Str} {o : DMt} {a e : Expr} {es : List Expr} {ta : DE} {t : DA} {cpos apos : Pos}
theorem ie_m (m : MtK X name o) (ha : IsE X a ta) (hr : IsA X (e :: es) t) (hbase : attributeBase a name X.env (eval a X.env) = eval a X.env := by rfl)
    (hfew : ((backTo cpos (starEach (e :: es) X.env)).all (fun x => !x.1) && (backToKw cpos (keywordEach [] X.env)).all (fun x => x.1.isSome)
      && decide ((e :: es).length + ([] : List Keyword).length + (if ([] : List Keyword).isEmpty then 0 else 1) < 30)) = true := by rfl)
    (hline : (apos.endLine == cpos.line) = true := by rfl) (hs : starEach (e :: es) X.env = (false, eval e X.env) :: starEach es X.env := by rfl) (hplain : (backTo cpos (starEach es X.env)).any (·.1) = false := by rfl) :
    IsE X (.Call (.Attribute a name apos) (e :: es) [] cpos) (eM o ta t) := fun EX W tk =>
  let ⟨_, _, sl, hty, hm, lo⟩ := m.ex
  pe_imp (pe_bm PySem.F.plainAttrs_list sl hty hm (ha EX W tk) (hr EX W tk) hbase hfew hline hs hplain) (low_m lo)
theorem ie_m0 (m : MtK X name o) (ha : IsE X a ta) (hbase : attributeBase a name X.env (eval a X.env) = eval a X.env := by rfl) (hline : (apos.endLine == cpos.line) = true := by rfl) : IsE X (.Call (.Attribute a name apos) [] [] cpos) (eM0 o ta) := fun EX W tk =>
  let ⟨_, _, sl, hty, hm, lo⟩ := m.ex
  pe_imp (pe_bm0 PySem.F.plainAttrs_list sl hty hm (ha EX W tk) hbase hline) (low_m0 lo)
theorem mk_append : MtK X "append" oAppend := ⟨_, _, PySem.F.slot_list_append, PySem.F.type_list_append, mt_append, append_low⟩
end
/-- where it stands first, how often (flat items) -/
def oIndex : DMt := fun x xs S Q => match x, xs with
  | .ref a, [d] => ∃ ds, rdL S a ds ∧ flatD d = true ∧ ds.all flatD = true ∧ match ds.findIdx? (fun e => eqFlat e d) with
    | some j => Q (.int (j : Nat)) S
    | none => False
  | _, _ => False
def oCount : DMt := fun x xs S Q => match x, xs with
  | .ref a, [d] => ∃ ds, rdL S a ds ∧ flatD d = true ∧ ds.all flatD = true ∧ Q (.int (ds.countP (fun e => eqFlat e d) : Nat)) S
  | _, _ => False
theorem flat_rep {K : PySem.W.Frag} {H : Hp} {d : D} {v : V} (r : Rep K H d v) (f : flatD d = true) : flatV v = true := by
  cases r <;> first | rfl | exact absurd f (by simp [flatD])
theorem flats_rep {K : PySem.W.Frag} {H : Hp} : ∀ {ds : List D} {vs : List V}, Reps K H ds vs → ds.all flatD = true → vs.all flatV = true
  | _, _, .nil, _ => rfl
  | _, _, .cons r t, f => by
    rw [List.all_cons, Bool.and_eq_true] at f
    rw [List.all_cons, flat_rep r f.1, flats_rep t f.2]
    rfl
theorem eqFlat_rep {K : PySem.W.Frag} {H : Hp} {d e : D} {v u : V} (r : Rep K H d v) (r2 : Rep K H e u) (f : flatD d = true) (f2 : flatD e = true) : eqV v u = eqFlat d e := by
  cases r <;> cases r2 <;> first | rfl | exact absurd f (by simp [flatD]) | exact absurd f2 (by simp [flatD])
theorem index_low {K : PySem.W.Frag} : LowM K (rIndex K) oIndex := fun H S x v xs vs Q Qd rx rxs rs h q => by
  unfold oIndex at h
  split at h
  · rename_i a d
    cases rx
    cases rxs with
    | cons rd t =>
      cases t
      obtain ⟨ds, hr, f1, f2, h⟩ := h
      obtain ⟨ys, sq, r⟩ := rs.rd hr
      split at h
      · rename_i j e
        obtain ⟨hj, e1, e2⟩ := List.findIdx?_eq_some_iff_getElem.mp e
        obtain ⟨z, ez, rz⟩ := r.get (List.getElem?_eq_getElem hj)
        have fa : ∀ (m : Nat) (hm : m < ds.length), flatD ds[m] = true := fun m hm => List.all_eq_true.mp f2 _ (List.getElem_mem hm)
        refine ⟨_, _, _, j, z, rfl, rfl, sq, flat_rep rd f1, flats_rep r f2, ez, ?_, fun m z' hm em => ?_, q _ S _ H h (.int _) rs (Kept.refl H)⟩
        · rw [eqFlat_rep rz rd (fa j hj) f1]; exact e1
        · obtain ⟨d', ed, rd'⟩ := r.get' em
          have hm2 : m < ds.length := Nat.lt_trans hm hj
          rw [List.getElem?_eq_getElem hm2] at ed
          cases ed
          rw [eqFlat_rep rd' rd (fa m hm2) f1]
          exact Bool.eq_false_iff.mpr (e2 m hm)
      · exact h.elim
  · exact h.elim
def rCountV (K : PySem.W.Frag) : V → List V → Hp → VK → Prop := fun x xs H Q => ∃ (p : Addr) (ys : List V) (y : V), x = .ref p ∧ xs = [y] ∧ SqL K H p ys ∧ flatV y = true ∧ ys.all flatV = true ∧ Q (.int (ys.countP (fun z => eqV z y) : Nat)) H
theorem countP_vals {y : V} : ∀ {ys : List V} {us : List Value}, Vals ys us → ys.all flatV = true → us.countP (eqU y) = ys.countP fun z => eqV z y
  | _, _, .nil, _ => rfl
  | _, _, .cons r t, f => by
    rw [List.all_cons, Bool.and_eq_true] at f
    rw [List.countP_cons, List.countP_cons, countP_vals t f.2, eqU_of r f.1]
theorem mt_countV {X : Cx} : MtR X "list.count" (rCountV X.K) := by
  intro pins s σ H x xs v us Q I rx rxs h
  obtain ⟨p, ys, y, rfl, rfl, sq, fy, fys, q⟩ := h
  cases rx
  obtain ⟨uy, rfl, ry⟩ := vals1 rxs
  obtain ⟨its, rv, ⟨⟨cls, dd, data, sl⟩, n, ho, hc, hdn, hd⟩, hlen⟩ := I.list sq
  simp only at hc hd
  subst hc hd
  refine call_meets PySem.F.slot_list_count ⟨_, ho, rfl⟩ PySem.F.entry_list_count (PySem.F.args_list_count_2 _ _)
    (SeqAt.list_countAt p its.toArray n dd sl uy (eqU y)) ⟨ho, fun u' hu' => mem_eqAt ry fy rv fys u' (by simpa using hu'), ?_⟩
  refine ⟨.int (ys.countP (fun z => eqV z y) : Nat), H, I.tok _, ⟨s.toks, ?_⟩, q⟩
  show Value.int ((its.toArray.toList.countP (eqU y) : Nat) : Int) s.toks = _
  rw [← countP_vals rv fys]
theorem countP_reps {K : PySem.W.Frag} {H : Hp} {d : D} {v : V} (rd : Rep K H d v) (f1 : flatD d = true) : ∀ {ds : List D} {vs : List V}, Reps K H ds vs → ds.all flatD = true → vs.countP (fun z => eqV z v) = ds.countP fun e => eqFlat e d
  | _, _, .nil, _ => rfl
  | _, _, .cons r t, f => by
    rw [List.all_cons, Bool.and_eq_true] at f
    rw [List.countP_cons, List.countP_cons, countP_reps rd f1 t f.2, eqFlat_rep r rd f.1 f1]
theorem count_low {K : PySem.W.Frag} : LowM K (rCountV K) oCount := fun H S x v xs vs Q Qd rx rxs rs h q => by
  unfold oCount at h
  split at h
  · cases rx
    cases rxs with
    | cons rd t =>
      cases t
      obtain ⟨ds, hr, f1, f2, h⟩ := h
      obtain ⟨ys, sq, r⟩ := rs.rd hr
      refine ⟨_, _, _, rfl, rfl, sq, flat_rep rd f1, flats_rep r f2, ?_⟩
      rw [countP_reps rd f1 r f2]
      exact q _ S _ H h (.int _) rs (Kept.refl H)
  · exact h.elim
section
variable {X : Cx}
theorem mk_index : MtK X "index" oIndex := ⟨_, _, PySem.F.slot_list_index, PySem.F.type_list_index, mt_index, index_low⟩
theorem mk_count : MtK X "count" oCount := ⟨_, _, PySem.F.slot_list_count, PySem.F.type_list_count, mt_countV, count_low⟩
end

/-! ### isinstance of the error that is handled -/
def oIsE (ans : List D → Option Bool) : DCall := fun xs S Q => match ans xs with
  | some b => Q (.bl b) S
  | none => False
/-- isinstance(e, c): the pinned error at a -/
theorem ic_isE {X : Cx} {a C : Addr} {oe : Obj} {c : D} {cv : Value} {b : Bool} (hp : (a, oe) ∈ X.pn) (hz : Zc (.ref C) none oe) (hf : ∃ vs, oe.data = .fields vs) (E : ExcC X.K C) (hc : c = .ty "ValueError" ∧ cv = .type "ValueError" ∨ ∃ d, c = .ref d ∧ cv = .ref d) (hk : PySem.W.kitOne X.K (.ref C) cv = some b) :
    IsCall X (.builtin "isinstance") (fun xs S Q => xs = [.ref a, c] ∧ Q (.bl b) S) := by
  refine ⟨fun xs H Q => ∃ y, xs = [.ref a, y] ∧ (∀ u, RelV y u → u = cv) ∧ Q (.bl b) H, ?_, ?_⟩
  · intro pins s σ H xs us Q I r h
    obtain ⟨y, rfl, hy, q⟩ := h
    obtain ⟨u1, u2, rfl, r1, r2⟩ := vals2 r
    obtain rfl : u1 = Value.ref a := r1
    have e2 := hy _ r2
    subst e2
    obtain ⟨hget, _⟩ := I.pin (a, oe) (List.mem_append_left _ hp)
    obtain ⟨vs, hv⟩ := hf
    have J : PySem.W.InstAt s.heap a oe C none := by
      obtain ⟨oc, od, oda, osl⟩ := oe
      obtain ⟨h1, h2⟩ := hz
      dsimp only at h1 h2 hv
      subst h1 h2 hv
      exact ⟨hget, rfl, rfl, trivial⟩
    exact PySem.W.kia_one (PySem.W.handS_kitx_exc E.hg E.hk E.hs E.hd E.ha E.hn E.ht E.hm) I.kIn J hk (fun z => nomatch z) fun tk => ⟨.bl b, H, I.kept (t' := tk) fun _ _ z => z, rfl, q⟩
  · intro H S xs vs Q Qd r rs h q
    obtain ⟨rfl, h⟩ := h
    cases r with
    | cons rx r =>
      cases r with
      | cons ry r =>
        cases r
        cases rx
        refine ⟨_, rfl, fun u ru => ?_, q _ S _ H h (.bl b) rs (Kept.refl H)⟩
        rcases hc with ⟨rfl, rfl⟩ | ⟨d, rfl, rfl⟩
        · cases ry; exact ru
        · cases ry; exact ru
theorem refs_of : ∀ {cs : List Addr} {us : List Value}, Vals (cs.map V.ref) us → us = cs.map Value.ref
  | [], _, .nil => rfl
  | c :: cs, _, .cons r t => by
    have e : _ = Value.ref c := r
    rw [e, refs_of t]
    rfl
theorem reps_refs {K : PySem.W.Frag} {H : Hp} : ∀ {cs : List Addr} {vs : List V}, Reps K H (cs.map D.ref) vs → vs = cs.map V.ref
  | [], _, .nil => rfl
  | c :: cs, _, .cons r t => by
    cases r
    rw [reps_refs t]
    rfl
/-- isinstance(e, (c1, c2, ..)) -/
theorem ic_isET {X : Cx} {a C : Addr} {oe : Obj} {cs : List Addr} {b : Bool} (hp : (a, oe) ∈ X.pn) (hz : Zc (.ref C) none oe) (hf : ∃ vs, oe.data = .fields vs) (E : ExcC X.K C) (hk : PySem.W.kitAny X.K (.ref C) (cs.map Value.ref) = some b) :
    IsCall X (.builtin "isinstance") (fun xs S Q => xs = [.ref a, .tup (cs.map D.ref)] ∧ Q (.bl b) S) := by
  refine ⟨fun xs H Q => ∃ tp, xs = [.ref a, .ref tp] ∧ SqT X.K H tp (cs.map V.ref) ∧ Q (.bl b) H, ?_, ?_⟩
  · intro pins s σ H xs us Q I r h
    obtain ⟨tp, rfl, sq, q⟩ := h
    obtain ⟨u1, u2, rfl, r1, r2⟩ := vals2 r
    obtain rfl : u1 = Value.ref a := r1
    obtain rfl : u2 = Value.ref tp := r2
    obtain ⟨hget, _⟩ := I.pin (a, oe) (List.mem_append_left _ hp)
    obtain ⟨vs, hv⟩ := hf
    have J : PySem.W.InstAt s.heap a oe C none := by
      obtain ⟨oc, od, oda, osl⟩ := oe
      obtain ⟨h1, h2⟩ := hz
      dsimp only at h1 h2 hv
      subst h1 h2 hv
      exact ⟨hget, rfl, rfl, trivial⟩
    obtain ⟨its, rv, ⟨⟨oc, od, dt, sl⟩, h1, h2, n, h3⟩, _⟩ := I.tuple sq
    simp only at h2 h3
    subst h2 h3
    have e3 : its = cs.map Value.ref := refs_of rv
    subst e3
    exact PySem.W.kia_tup (PySem.W.handS_kitx_exc E.hg E.hk E.hs E.hd E.ha E.hn E.ht E.hm) I.kIn J h1 hk (fun z => nomatch z) fun tk => ⟨.bl b, H, I.kept (t' := tk) fun _ _ z => z, rfl, q⟩
  · intro H S xs vs Q Qd r rs h q
    obtain ⟨rfl, h⟩ := h
    cases r with
    | cons rx r =>
      cases r with
      | cons ry r =>
        cases r
        cases rx
        cases ry with
        | tup sq rr =>
          rw [reps_refs rr] at sq
          exact ⟨_, rfl, sq, q _ S _ H h (.bl b) rs (Kept.refl H)⟩
/-- a class of the text as a value -/
theorem ie_cls {X : Cx} {x : Str} {C : Addr} {pos : Pos} (hm : X.mg x = some (.ref C)) (hg : Gl X x := by rfl) (hd : (x == ("__debug__" : Str)) = false := by decide) : IsE X (.Name x pos) (eC (.ref C)) :=
  ie_c (pe_glob (v := .ref C) hg hm rfl hd) fun _ => .ref C
theorem Seer.bk {X : Cx} {scope : Scope} {q : Shared × Hp × Addr × List (Str × Addr) × List Addr} (h : Seer X) : Seer (Cx.bk X scope q) := ⟨h.fr, h.ns, h.tr, h.dp⟩
theorem Seer.intry {X : Cx} {pn : List (Addr × Obj)} {xe : Value → Shared → Prop} (h : Seer X) : Seer (Cx.tr X pn xe) := ⟨h.fr, h.ns, h.tr, h.dp⟩
end DL
end L2

/-! SPa: what the defs on numbers promise, and the law's own drawing. -/
namespace L2
namespace DL
open PySem PySem.Spec PyProof PyProof.Rows

/-- the classes of the refusals, by their places -/
structure Cs where
  se : Addr
  nn : Addr
  np : Addr
  ns : Addr
  nt : Addr
  nr : Addr
  nm : Addr
abbrev N2 (a b : Int) : D := .tup [.int a, .int b]
def gcdI (a b : Int) : Int := (Int.gcd a b : Int)
/-- in lowest form, the bottom above 0 -/
def nrm (a b : Int) : Int × Int := (a.fdiv (if b < 0 then -gcdI a b else gcdI a b), b.fdiv (if b < 0 then -gcdI a b else gcdI a b))
abbrev NN (p : Int × Int) : D := N2 p.1 p.2
/-- no product of these is too large -/
def Bd (n : Nat) (i : Int) : Prop := i.natAbs < 2 ^ n
def sp_divisor : DSp := fun ds S Q _ => ∃ a b, ds = [.int a, .int b] ∧ Q (.int (gcdI a b)) S
def sp_number (C : Cs) : DSp := fun ds S Q E => ∃ a b, ds = [.int a, .int b] ∧ (b = 0 → E C.nn S) ∧ (b ≠ 0 → Q (NN (nrm a b)) S)
def sp_plus (C : Cs) : DSp := fun ds S Q _ => ∃ a b c d, ds = [N2 a b, N2 c d] ∧ b ≠ 0 ∧ d ≠ 0 ∧ IntMulOk a d ∧ IntMulOk c b ∧ IntMulOk b d ∧ Q (NN (nrm (a * d + c * b) (b * d))) S
def sp_minus (C : Cs) : DSp := fun ds S Q _ => ∃ a b c d, ds = [N2 a b, N2 c d] ∧ b ≠ 0 ∧ d ≠ 0 ∧ IntMulOk a d ∧ IntMulOk (-c) b ∧ IntMulOk b d ∧ Q (NN (nrm (a * d + (-c) * b) (b * d))) S
def sp_times (C : Cs) : DSp := fun ds S Q _ => ∃ a b c d, ds = [N2 a b, N2 c d] ∧ b ≠ 0 ∧ d ≠ 0 ∧ IntMulOk a c ∧ IntMulOk b d ∧ Q (NN (nrm (a * c) (b * d))) S
def sp_over (C : Cs) : DSp := fun ds S Q E => ∃ a b c d, ds = [N2 a b, N2 c d] ∧ IntMulOk a d ∧ IntMulOk b c ∧ (b * c = 0 → E C.nn S) ∧ (b * c ≠ 0 → Q (NN (nrm (a * d) (b * c))) S)

/-! ### the law's own drawing -/
structure Purse (S : Sto) (p : Addr) : Prop where
  ex : ∃ x y z : Int, S p = some (.lst [.int x, .int y, .int z]) ∧ 0 ≤ x ∧ 0 ≤ y ∧ y < 2147483629 ∧ 0 ≤ z ∧ z < 11
/-- all but p as it was -/
def But (p : Addr) (S S' : Sto) : Prop := ∀ b, b ≠ p → S' b = S b
def sp_purse : DSp := fun ds S Q _ => ∃ (ns : List Int) (at' : Int), ds = [.ltv (ns.map D.int), .int at'] ∧ ns.length ≤ 63 ∧ 0 ≤ at' ∧ at' ≤ 1000 ∧ ∀ p S', S p = none → But p S S' → Purse S' p → Q (.ref p) S'
def sp_draw : DSp := fun ds S Q _ => ∃ p many, ds = [.ref p, .int many] ∧ Purse S p ∧ 1 ≤ many ∧ many < 10 ^ 40 ∧ ∀ d S', 0 ≤ d → d < many → But p S S' → Purse S' p → Q (.int d) S'
/-- a whole number between -most and most, or one of few signs -/
def sp_whole : DSp := fun ds S Q _ => ∃ p most, ds = [.ref p, .int most] ∧ Purse S p ∧ 1 ≤ most ∧ most < 10 ^ 39 ∧ ∀ n S', -most ≤ n ∧ n ≤ most ∨ -9 ≤ n ∧ n ≤ 9 → But p S S' → Purse S' p → Q (.int n) S'
def sp_low : DSp := fun ds S Q _ => ∃ a b, ds = [.int a, .int b] ∧ b ≠ 0 ∧ Q (NN (nrm a b)) S
def sp_isWhole : DSp := fun ds S Q _ => ∃ a, ds = [.int a] ∧ Q (.bl true) S
def sp_isNumber : DSp := fun ds S Q _ => ∃ a b, ds = [N2 a b] ∧ Q (.bl (decide (0 < b) && decide (gcdI a b = 1))) S
/-- told: the number, or the class's name -/
def sp_told (C : Cs) : DSp := fun ds S Q _ => ∃ a b, ds = [.int a, .int b] ∧ (b = 0 → Q (.str "NoNumber") S) ∧ (b ≠ 0 → Q (NN (nrm a b)) S)
def sp_lover (C : Cs) : DSp := fun ds S Q _ => ∃ a b c d, ds = [N2 a b, N2 c d] ∧ IntMulOk a d ∧ IntMulOk b c ∧ (b * c = 0 → Q (.str "NoNumber") S) ∧ (b * c ≠ 0 → Q (NN (nrm (a * d) (b * c))) S)
def sp_right : DSp := fun ds S Q _ => ∃ a b c d, ds = [N2 a b, .int c, .int d] ∧ d ≠ 0 ∧ Q (.bl (decide (0 < b) && decide (gcdI a b = 1) && decide ((a, b) = nrm c d))) S
def sp_law : DSp := fun ds S Q _ => ∃ (ns : List Int), ds = [.ltv (ns.map D.int)] ∧ ns.length ≤ 63 ∧ ∀ S', Q (.bl true) S'
def whichOf (C : Cs) : Addr → Option Str := fun a => if a = C.nn then some "NoNumber" else if a = C.np then some "NoPlace" else none
def oIsX (a : Addr) (c : D) (b : Bool) : DCall := fun xs S Q => xs = [.ref a, c] ∧ Q (.bl b) S

/-! ### what a law's text has of the module -/
/-- names that are the built-ins' -/
structure BT (mg : Str → Option Value) : Prop where
  len : mg "len" = none
  abs : mg "abs" = none
  max : mg "max" = none
  min : mg "min" = none
  isinstance : mg "isinstance" = none
  int : mg "int" = none
  tuple : mg "tuple" = none
  list : mg "list" = none
  bool : mg "bool" = none
  str : mg "str" = none
  all : mg "all" = none
  any : mg "any" = none
  range : mg "range" = none
  enumerate : mg "enumerate" = none
  reversed : mg "reversed" = none
  ValueError : mg "ValueError" = none
/-- where divisions of any size may be done -/
structure Env (P : Program) (base : Heap) : Prop where
  ns : base.NoSeer
  tr : P.given.tree = none
theorem seer_cx {CX : CXT} {P : Program} {w : World} {K : PySem.W.Frag} {mg : Str → Option Value} {base : Heap} {N ps : List Str} {qual : Str} {st : Stmt} {f : Addr} {cd : Value} {A : Around} {outer : List PySem.Env} {s : Shared} {H : Hp} {E : XK} {k : Nat} (V : Env P base) (Sc : FnScope N ps (defScope st))
    (hr : Room k (A.deeper (envOfC qual (defScope st) s.heap.objs.size f cd))) (hk : 32 ≤ k) : Seer (cxOf CX P w K mg base N qual (defScope st) f cd A outer s H E) :=
  ⟨⟨_, _, rfl, Sc.gen, Sc.co, rfl, rfl⟩, V.ns, V.tr, by
    have h := hr.dp
    show (A.deeper (envOfC qual (defScope st) s.heap.objs.size f cd)).depth + 100 < recursionLimit
    omega⟩
end DL
end L2

/-! WK: from a law's promise over data to the row's walk; the base has nobody who looks at imports (divisions of any size). -/
namespace L2
namespace DL
open PySem PySem.Spec PyProof.Rows

theorem reps_ints {K : PySem.W.Frag} {H : Hp} : ∀ ns : List Int, Reps K H (ns.map D.int) (ns.map V.int)
  | [] => .nil
  | n :: ns => .cons (.int n) (reps_ints ns)
/-- what a promise over data is at a call from outside -/
theorem call_law {P : Program} {w : World} {K : PySem.W.Frag} {mg mb : Str → Option Value} {k : Nat} {fa a : Addr} {fd : FuncData} {x : Str} {sp : DSp} {s1 : Shared} {us : List Value} {ns : List Int}
    (KX : K.In s1.heap) (hg : s1.heap.Ns mainGlobals mg) (hb : s1.heap.Ns builtinsNs mb) (hbb : ∀ x : Str, x ≠ "__name__" → mb x = bootBuiltins x) (hlim : s1.heap.NoLimit) (hsee : s1.heap.NoSeer) (hgens : s1.gens = #[])
    (ha : s1.heap.get? a = some { cls := .type "list", data := .seq us.toArray }) (hi : IntsAre us ns) (hl : ns.length ≤ sizeLine) (hr : Room k callerA)
    (F : ∀ base : Heap, K.In base → base.Ns mainGlobals mg → base.NoSeer → FnOk P w K mg base (L2.CX P w) k fa fd [x] (upF K sp)) (hbind : ∀ (s : Shared) (u : Value), BindsTo s fd ⟨[u], []⟩ [(x, u)])
    (hsp : sp [.ltv (ns.map D.int)] (fun _ => none) (fun d _ => d = .bl true) fun _ _ => False) :
    codeAny (model P w) callerA (.call (.ref fa) ⟨[.ref a], []⟩) (fun r s' => r = .ok (.ret (.bool true)) ∧ OldK s1.heap s'.heap ∧ s'.os = s1.os ∧ AllBare s'.gens) s1 := by
  have rv := vals_ints hi
  have many : us.length = ns.length := hi.length
  -- from a heap in which at most the script is tracked
  have core : ∀ H : Hp, SqI K H a (ns.map V.int) → HOk P w H s1.heap → (∀ b u, H b = some u → b = a ∧ K.lookup a = none ∧ ∃ o ys, u = .frz o (.lst ys)) →
      codeAny (model P w) callerA (.call (.ref fa) ⟨[.ref a], []⟩) (fun r s' => r = .ok (.ret (.bool true)) ∧ OldK s1.heap s'.heap ∧ s'.os = s1.os ∧ AllBare s'.gens) s1 := fun H hS hok hA => by
    -- objects other than the script are in the base
    have off : ∀ {b : Addr} {o : Obj}, s1.heap.get? b = some o → (b = a → o.cls ≠ .type "list") → H b = none := fun {b o} e hne => by
      cases q : H b with
      | none => rfl
      | some u =>
        obtain ⟨rfl, _, _⟩ := hA b u q
        rw [ha] at e
        cases e
        exact absurd rfl (hne rfl)
    have offD : ∀ {b : Addr} {o : Obj} {es : Array DictEntry} {ep : Nat}, s1.heap.get? b = some o → o.data = .dict es ep → H b = none := fun {b o es ep} e d => by
      cases q : H b with
      | none => rfl
      | some u =>
        obtain ⟨rfl, _, _⟩ := hA b u q
        rw [ha] at e
        cases e
        cases (show Data.seq us.toArray _ = Data.dict es ep from d)
    have nsB : ∀ {b : Addr} {m : Str → Option Value}, s1.heap.Ns b m → (hidT s1.heap H).Ns b m := fun {b m} ⟨o, es, ep, e, d, r⟩ => ⟨o, es, ep, hidT_get e (offD e d), d, r⟩
    have kB : K.In (hidT s1.heap H) := fun b o e => hidT_get (KX b o e) (by
      cases q : H b with
      | none => rfl
      | some u =>
        obtain ⟨rfl, hk, _⟩ := hA b u q
        rw [hk] at e; cases e)
    have seeB : (hidT s1.heap H).NoSeer := by
      refine ⟨?_, ?_, ?_, ?_⟩
      · obtain ⟨mc, h1, h2⟩ := hsee.statics; exact ⟨mc, nsB h1, h2⟩
      · obtain ⟨mc, h1, h2⟩ := hsee.mods; exact ⟨mc, nsB h1, h2⟩
      · obtain ⟨mc, h1, h2⟩ := hsee.imp; exact ⟨mc, nsB h1, h2⟩
      · obtain ⟨mc, bm, ob, h1, h2, h3, h4, h5⟩ := hsee.main
        exact ⟨mc, bm, ob, nsB h1, h2, hidT_get h3 (off h3 fun _ => by rw [h4]; decide +kernel), h4, h5⟩
    have modB : Mod K mg (hidT s1.heap H) := ⟨kB, nsB hg, ⟨mb, nsB hb, hbb⟩, let ⟨mc, h1, h2⟩ := hlim; ⟨mc, nsB h1, h2⟩⟩
    have env0 : Env0 P w K mg (hidT s1.heap H) callerA [] s1 H := ⟨rfl, modB, fun b o e => of_hidT e, Nat.le_of_eq (hidT_size _ _), trivial, fun b z => absurd (show b ∈ ([] : List Addr) from z) (by simp), hok, .of_eq hgens⟩
    refine codeAny_mono ((F _ kB (nsB hg) seeB).run callerA [] s1 H ⟨[.ref a], []⟩ [.ref a] [.ref a] (fun v _ => v = .bl true) (fun _ _ _ => False) hr env0 (hbind s1 (.ref a)) (.cons rfl .nil)
      ⟨[.ltv (ns.map D.int)], fun _ => none, _, _, .cons (.ltv hS (reps_ints ns)) .nil, fun _ _ z => (nomatch z), hsp, fun d S' v H' e r _ _ => by subst e; cases r; rfl, fun _ _ _ z _ _ => z⟩) fun r s' q => ?_
    match r, q with
    | .error e, ⟨_, _, _, _, _, _, _, _, _, _, _, _, z⟩ => exact z.elim
    | .ok (.ret u), ⟨v, H', os, bare, un, hok', rv', ev⟩ =>
      subst ev
      obtain rfl : u = Value.bool true := rv'
      refine ⟨rfl, OldK.of_keep fun b o e => ?_, os, bare⟩
      cases q : H b with
      | none => exact un.keep b o e q (by intro z; exact absurd (show b ∈ ([] : List Addr) from z) (by simp)) (by simp)
      | some u =>
        obtain ⟨_, _, ob, ys, rfl⟩ := hA b u q
        obtain ⟨e1, _⟩ := hok b _ q
        obtain ⟨e2, _⟩ := hok' b _ (un.frzs b ob _ q)
        rw [e] at e1
        cases e1
        exact e2
  cases hk : K.lookup a with
  | some o =>
    have e := KX a o hk
    rw [ha] at e
    cases e
    exact core (fun _ => none) (.inr ⟨_, us.toArray, _, hk, rfl, rfl, rfl, by rw [List.size_toArray, many]; exact hl, by simpa using rv⟩) (fun b u z => by cases (show (none : Option HO) = some u from z)) fun b u z => by cases (show (none : Option HO) = some u from z)
  | none =>
    refine core (fun b => if b = a then some (.frz { cls := .type "list", data := .seq us.toArray } (.lst (ns.map V.int))) else none) (.inl ⟨_, if_pos rfl⟩) (fun b u z => ?_) fun b u z => ?_
    · by_cases h : b = a
      · have z' := (if_pos h).symm.trans z
        cases z'
        subst h
        exact ⟨ha, by rw [List.length_map]; exact hl, us, _, rv, ha⟩
      · cases (if_neg h).symm.trans z
    · by_cases h : b = a
      · cases (if_pos h).symm.trans z
        exact ⟨h, hk, _, _, rfl⟩
      · cases (if_neg h).symm.trans z
/-- the goal that k_head leaves (case hc) -/
theorem walk_law {l : PySem.W.OpenLaw} {n k : Nat} {q : Program} {loose : List Str} {XP : (Str → Option Value) → Heap → Prop} {YP : World → Heap → Prop} {d : DefRec} {K : Params → PySem.W.Frag} {x : Str}
    (hn : l.most = some n) (hn2 : n ≤ sizeLine) (hdf : d.params.defaults = []) (hr : Room k callerA) (him : importsNone q = true)
    (hY : ∀ (w : World) (h : Heap), YP w h → (K w.params).In h)
    (F : ∀ (w : World) (mg : Str → Option Value) (fa : Addr) (h : Heap), (K w.params).In h → h.Ns mainGlobals mg → mg d.name = some (.ref fa) →
      ∃ (fd : FuncData) (sp : DSp), (∀ (s : Shared) (u : Value), BindsTo s fd ⟨[u], []⟩ [(x, u)]) ∧ (∀ ns : List Int, ns.length ≤ n → sp [.ltv (ns.map D.int)] (fun _ => none) (fun d _ => d = .bl true) fun _ _ => False) ∧
        ∀ base : Heap, (K w.params).In base → base.Ns mainGlobals mg → base.NoSeer → FnOk l.prog w (K w.params) mg base (L2.CX l.prog w) k fa fd [x] (upF (K w.params) sp)) :
    PySem.W.WalkO q loose XP YP l.row.toRowW d [] (fun f vs => PySem.call f vs) := by
  refine Att.attach_call hn hdf fun w s0 s1 mg mb fa o pm cd doc a us ns G Y ho hd hcd hmg hobj hints hlen hgens => ?_
  have KX := hY w _ Y
  obtain ⟨fd, sp, hb, hsp, hF⟩ := F w mg fa _ KX G.T.g hmg
  exact call_law KX G.T.g G.T.b G.T.builtins G.T.nolimit (G.T.seer him) hgens hobj hints (Nat.le_trans hlen hn2) hr hF hb (hsp ns hlen)
end DL
end L2

/-! DLf: the operations as equations, for simp; loops over lists. -/
namespace L2
namespace DL
open PySem PySem.Spec PyProof PyProof.Rows

/-- the list that may be written at a; the one that may be read -/
def lstAt (S : Sto) (a : Addr) : Option (List D) := match S a with
  | some (.lst ds) => some ds
  | _ => none
def rdAt (S : Sto) (a : Addr) : Option (List D) := match S a with
  | some (.lst ds) => some ds
  | some (.ro ds) => some ds
  | _ => none
theorem lstAt_iff {S : Sto} {a : Addr} {ds : List D} : lstAt S a = some ds ↔ S a = some (.lst ds) := by
  unfold lstAt
  split
  · rename_i xs e; rw [e]; simp
  · rename_i h
    constructor
    · intro e; cases e
    · intro e; exact absurd e (h ds)
theorem rdAt_iff {S : Sto} {a : Addr} {ds : List D} : rdAt S a = some ds ↔ rdL S a ds := by
  unfold rdAt rdL
  split
  · rename_i xs e; rw [e]; simp
  · rename_i xs e; rw [e]; simp
  · rename_i h1 h2
    constructor
    · intro e; cases e
    · rintro (e | e)
      · exact absurd e (h1 ds)
      · exact absurd e (h2 ds)
theorem rdAt_of {S : Sto} {a : Addr} {ds : List D} (h : lstAt S a = some ds) : rdAt S a = some ds := rdAt_iff.mpr (.inl (lstAt_iff.mp h))
theorem lstAt_sup {S : Sto} {a : Addr} {ds : List D} : lstAt (sup S a (.lst ds)) a = some ds := lstAt_iff.mpr sup_same
theorem rdAt_sup {S : Sto} {a : Addr} {ds : List D} : rdAt (sup S a (.lst ds)) a = some ds := rdAt_of lstAt_sup
theorem lstAt_ne {S : Sto} {a b : Addr} {o : MO} (h : a ≠ b) : lstAt (sup S b o) a = lstAt S a := by
  unfold lstAt; rw [sup_ne h]
theorem rdAt_ne {S : Sto} {a b : Addr} {o : MO} (h : a ≠ b) : rdAt (sup S b o) a = rdAt S a := by
  unfold rdAt; rw [sup_ne h]
theorem ex_lst {S : Sto} {a : Addr} {p : List D → Prop} : (∃ ds, S a = some (.lst ds) ∧ p ds) = match lstAt S a with
    | some ds => p ds
    | none => False := by
  apply propext
  split
  · rename_i ds e
    have e' := lstAt_iff.mp e
    exact ⟨fun ⟨ds', h, q⟩ => by rw [e'] at h; cases h; exact q, fun q => ⟨ds, e', q⟩⟩
  · rename_i e
    exact ⟨fun ⟨ds', h, q⟩ => (by rw [lstAt_iff.mpr h] at e; cases e), fun q => q.elim⟩
theorem ex_rd {S : Sto} {a : Addr} {p : List D → Prop} : (∃ ds, rdL S a ds ∧ p ds) = match rdAt S a with
    | some ds => p ds
    | none => False := by
  apply propext
  split
  · rename_i ds e
    refine ⟨fun ⟨ds', h, q⟩ => ?_, fun q => ⟨ds, rdAt_iff.mp e, q⟩⟩
    have e' := rdAt_iff.mpr h
    rw [e] at e'
    cases e'
    exact q
  · rename_i e
    exact ⟨fun ⟨ds', h, q⟩ => (by rw [rdAt_iff.mpr h] at e; cases e), fun q => q.elim⟩
section
variable {S : Sto} {Q : DK} {i j : Int} {p : Addr} {ds es : List D} {d : D} {g : Int → Int → D} {c : Int → Int → Prop} {k : Bool}
theorem onI_ii : OnI g (.int i) (.int j) S Q = Q (g i j) S := rfl
theorem onIC_ii : OnIC c g (.int i) (.int j) S Q = (c i j ∧ Q (g i j) S) := rfl
theorem oAdd_ii : oAdd (.int i) (.int j) S Q = Q (.int (i + j)) S := rfl
theorem oAdd_tt : oAdd (.tup ds) (.tup es) S Q = (ds.length + es.length ≤ sizeLine ∧ Q (.tup (ds ++ es)) S) := rfl
theorem oIadd_ii : oIadd (.int i) (.int j) S Q = Q (.int (i + j)) S := rfl
theorem oMul_ii : oMul (.int i) (.int j) S Q = (IntMulOk i j ∧ Q (.int (i * j)) S) := rfl
theorem oMul_l : oMul (.ref p) (.int i) S Q = match lstAt S p with
    | some xs => -(2 ^ 63) ≤ i ∧ i < 2 ^ 63 ∧ xs.length * i.toNat ≤ sizeLine ∧ ∀ q, S q = none → Q (.ref q) (sup S q (.lst (List.replicate i.toNat xs).flatten))
    | none => False := ex_lst
theorem oMul_t : oMul (.tup ds) (.int i) S Q = ((-1000 ≤ i ∧ i ≤ 1000 ∧ ds.length ≤ 1000) ∧ Q (.tup (List.replicate i.toNat ds).flatten) S) := rfl
theorem oNeg_i : oNeg (.int i) S Q = Q (.int (-i)) S := rfl
theorem oEq_ii : oEq (.int i) (.int j) S Q = Q (.bl (decide (i = j))) S :=
  propext ⟨fun ⟨_, _, e1, e2, _, _, h⟩ => by cases e1; cases e2; exact h, fun h => oEq_int h⟩
theorem oNe_ii : oNe (.int i) (.int j) S Q = Q (.bl (!decide (i = j))) S :=
  propext ⟨fun ⟨_, _, e1, e2, _, _, h⟩ => by cases e1; cases e2; exact h, fun h => oNe_int h⟩
theorem oIx_t : oIx (.tup ds) (.int i) S Q = match ix ds i with
  | some d => Q d S
  | none => False := rfl
theorem oIx_v : oIx (.ltv ds) (.int i) S Q = match ix ds i with
  | some d => Q d S
  | none => False := rfl
theorem oIx_r : oIx (.ref p) (.int i) S Q = match rdAt S p with
  | some ds => (match ix ds i with
    | some d => Q d S
    | none => False)
  | none => False := ex_rd
theorem oLen_t : oLen [.tup ds] S Q = Q (.int ds.length) S := rfl
theorem oLen_v : oLen [.ltv ds] S Q = Q (.int ds.length) S := rfl
theorem oLen_r : oLen [.ref p] S Q = match rdAt S p with
  | some ds => Q (.int ds.length) S
  | none => False := ex_rd
theorem oAbs_i : oAbs [.int i] S Q = Q (.int (if i < 0 then -i else i)) S := rfl
theorem o2I_ii {f : Int → Int → Int} : o2I f [.int i, .int j] S Q = Q (.int (f i j)) S := rfl
theorem oInt_i : oInt [.int i] S Q = Q (.int i) S := rfl
theorem oInt_b : oInt [.bl k] S Q = Q (.int (if k then 1 else 0)) S := rfl
theorem oTuple_t : oTuple [.tup ds] S Q = Q (.tup ds) S := rfl
theorem oTuple_r : oTuple [.ref p] S Q = match rdAt S p with
  | some ds => Q (.tup ds) S
  | none => False := ex_rd
theorem oIsi_eq {n t : String} {b : Bool} (ht : tyName d S = some t) (hk : kitB t n = some b) : oIsi [d, .ty n] S Q = Q (.bl b) S :=
  propext ⟨fun ⟨t', b', e1, e2, h⟩ => by rw [ht] at e1; cases e1; rw [hk] at e2; cases e2; exact h, fun h => ⟨t, b, ht, hk, h⟩⟩
theorem kit_ii : kitB "int" "int" = some true := by decide +kernel
theorem kit_ib : kitB "int" "bool" = some false := by decide +kernel
theorem kit_tt : kitB "tuple" "tuple" = some true := by decide +kernel
theorem isi_int : oIsi [.int i, .ty "int"] S Q = Q (.bl true) S := oIsi_eq rfl kit_ii
theorem isi_bool : oIsi [.int i, .ty "bool"] S Q = Q (.bl false) S := oIsi_eq rfl kit_ib
theorem isi_tup : oIsi [.tup ds, .ty "tuple"] S Q = Q (.bl true) S := oIsi_eq rfl kit_tt
theorem oSet_r {Qs : Sto → Prop} : oSet (.ref p) (.int i) d S Qs = match lstAt S p with
    | some xs => (match ixN xs.length i with
      | some j => Qs (sup S p (.lst (xs.set j d)))
      | none => False)
    | none => False := by
  rw [← ex_lst (S := S) (a := p) (p := fun xs => match ixN xs.length i with
    | some j => Qs (sup S p (.lst (xs.set j d)))
    | none => False)]
  apply propext
  constructor
  · rintro ⟨xs, j, e, hj, h⟩
    exact ⟨xs, e, by rw [hj]; exact h⟩
  · rintro ⟨xs, e, h⟩
    split at h
    · rename_i j hj
      exact ⟨xs, j, e, hj, h⟩
    · exact h.elim
theorem oAppend_r : oAppend (.ref p) [d] S Q = match lstAt S p with
    | some xs => xs.length < sizeLine ∧ Q .non (sup S p (.lst (xs ++ [d])))
    | none => False := ex_lst
theorem isL_r : isL (.ref p) S = match rdAt S p with
    | some _ => True
    | none => False := by
  have h := ex_rd (S := S) (a := p) (p := fun _ => True)
  simp only [and_true] at h
  exact h
theorem iLstD_r {a : DE} {EX : EXK} {δ : DSt} {R : (Sto → Prop) → List D → Sto → Prop} : iLstD a EX δ S R = a EX δ S (fun x S1 => match x with
    | .ref p => (match rdAt S1 p with
      | some ds => R (fun S' => rdL S' p ds) ds S1
      | none => False)
    | _ => False) := by
  unfold iLstD
  congr
  funext x S1
  cases x with
  | ref p => exact ex_rd
  | _ => rfl
end
section
variable {x y z w : D} {xs : List D}
theorem ix0 : ix (x :: xs) 0 = some x := by simp [ix]
theorem ix1 : ix (x :: y :: xs) 1 = some y := by
  have h : (1 : Int) < (xs.length : Int) + 1 + 1 := by omega
  simp [ix, h]
theorem ix2 : ix (x :: y :: z :: xs) 2 = some z := by
  have h : (2 : Int) < (xs.length : Int) + 1 + 1 + 1 := by omega
  simp [ix, h]
theorem ix3 : ix (x :: y :: z :: w :: xs) 3 = some w := by
  have h : (3 : Int) < (xs.length : Int) + 1 + 1 + 1 + 1 := by omega
  simp [ix, h]
theorem ix_last : ix (xs ++ [x]) (-1) = some x := by
  have h : ¬ (0 : Int) ≤ -1 := by omega
  have h2 : -(((xs ++ [x]).length : Nat) : Int) ≤ -1 := by simp; omega
  have h3 : ((-1 : Int) + (((xs ++ [x]).length : Nat) : Int)).toNat = xs.length := by simp; omega
  unfold ix
  rw [if_neg h, if_pos h2, h3]
  simp
theorem ix_nat {xs : List D} {i : Nat} {x : D} (h : xs[i]? = some x) : ix xs (i : Int) = some x := by
  have hl := (List.getElem?_eq_some_iff.mp h).1
  unfold ix
  rw [if_pos (by omega), if_pos (by omega)]
  simpa using h
theorem ix_int {ns : List Int} {k : Int} (h0 : 0 ≤ k) (h1 : k < ns.length) : ix (ns.map D.int) k = some (.int (ns.getD k.toNat 0)) := by
  have hl : k.toNat < ns.length := by omega
  have e : ((k.toNat : Nat) : Int) = k := by omega
  have h := ix_nat (xs := ns.map D.int) (i := k.toNat) (x := .int (ns.getD k.toNat 0)) (by simp [hl])
  rw [e] at h
  exact h
end
theorem size_le {n : Nat} (h : n ≤ 100000) : n ≤ sizeLine := Nat.le_trans h (by decide)
theorem size_lt {n : Nat} (h : n < 100000) : n < sizeLine := Nat.lt_of_lt_of_le h (by decide)
/-- products of bounded numbers -/
theorem mulok_of {i j : Int} {a b : Nat} (ha : i.natAbs < 2 ^ a) (hb : j.natAbs < 2 ^ b) (h : a + b ≤ 100000000) : IntMulOk i j := by
  have b1 : ∀ (x : Int) (n : Nat), x.natAbs < 2 ^ n → Builtin.Int.intBits x ≤ n := fun x n hx => by
    unfold Builtin.Int.intBits
    split
    · omega
    · rename_i h0
      have h0' : x.natAbs ≠ 0 := by simpa using h0
      have := (Nat.log2_lt h0').mpr hx
      omega
  have h1 := b1 i a ha
  have h2 := b1 j b hb
  have e : bitsLine = 134217728 := by decide
  unfold IntMulOk
  intro z
  rw [Bool.and_eq_true] at z
  have z2 := z.2
  unfold Builtin.Int.intTooBig at z2
  have z3 := of_decide_eq_true z2
  rw [e] at z3
  omega
theorem mulok_left {i j : Int} (h1 : -(2 ^ 64) < i) (h2 : i < 2 ^ 64) : IntMulOk i j := .of_left (intBits_le_64 h1 h2)
theorem mulok_right {i j : Int} (h1 : -(2 ^ 64) < j) (h2 : j < 2 ^ 64) : IntMulOk i j := .of_right (intBits_le_64 h1 h2)
end DL
end L2

/-! SMa: the defs on numbers, and the law's drawing: terms and what they do. -/
namespace L2
namespace DL
open PySem PySem.Spec PyProof PyProof.Rows
theorem call_divisor {a b : Int} {S : Sto} {Q : DK} {E : Addr → Sto → Prop} : sp_divisor [.int a, .int b] S Q E = Q (.int (gcdI a b)) S :=
  propext ⟨fun ⟨_, _, e, h⟩ => by cases e; exact h, fun h => ⟨_, _, rfl, h⟩⟩
theorem call_number {C : Cs} {a b : Int} {S : Sto} {Q : DK} {E : Addr → Sto → Prop} : sp_number C [.int a, .int b] S Q E = ((b = 0 → E C.nn S) ∧ (b ≠ 0 → Q (NN (nrm a b)) S)) :=
  propext ⟨fun ⟨_, _, e, h⟩ => by cases e; exact h, fun h => ⟨_, _, rfl, h⟩⟩
theorem call_plus {C : Cs} {a b c d : Int} {S : Sto} {Q : DK} {E : Addr → Sto → Prop} : sp_plus C [N2 a b, N2 c d] S Q E = (b ≠ 0 ∧ d ≠ 0 ∧ IntMulOk a d ∧ IntMulOk c b ∧ IntMulOk b d ∧ Q (NN (nrm (a * d + c * b) (b * d))) S) :=
  propext ⟨fun ⟨_, _, _, _, e, h⟩ => by cases e; exact h, fun h => ⟨_, _, _, _, rfl, h⟩⟩
theorem call_minus {C : Cs} {a b c d : Int} {S : Sto} {Q : DK} {E : Addr → Sto → Prop} : sp_minus C [N2 a b, N2 c d] S Q E = (b ≠ 0 ∧ d ≠ 0 ∧ IntMulOk a d ∧ IntMulOk (-c) b ∧ IntMulOk b d ∧ Q (NN (nrm (a * d + (-c) * b) (b * d))) S) :=
  propext ⟨fun ⟨_, _, _, _, e, h⟩ => by cases e; exact h, fun h => ⟨_, _, _, _, rfl, h⟩⟩
theorem call_times {C : Cs} {a b c d : Int} {S : Sto} {Q : DK} {E : Addr → Sto → Prop} : sp_times C [N2 a b, N2 c d] S Q E = (b ≠ 0 ∧ d ≠ 0 ∧ IntMulOk a c ∧ IntMulOk b d ∧ Q (NN (nrm (a * c) (b * d))) S) :=
  propext ⟨fun ⟨_, _, _, _, e, h⟩ => by cases e; exact h, fun h => ⟨_, _, _, _, rfl, h⟩⟩
theorem call_over {C : Cs} {a b c d : Int} {S : Sto} {Q : DK} {E : Addr → Sto → Prop} : sp_over C [N2 a b, N2 c d] S Q E = (IntMulOk a d ∧ IntMulOk b c ∧ (b * c = 0 → E C.nn S) ∧ (b * c ≠ 0 → Q (NN (nrm (a * d) (b * c))) S)) :=
  propext ⟨fun ⟨_, _, _, _, e, h⟩ => by cases e; exact h, fun h => ⟨_, _, _, _, rfl, h⟩⟩
theorem call_draw {p : Addr} {many : Int} {S : Sto} {Q : DK} {E : Addr → Sto → Prop} : sp_draw [.ref p, .int many] S Q E = (Purse S p ∧ 1 ≤ many ∧ many < 10 ^ 40 ∧ ∀ d S', 0 ≤ d → d < many → But p S S' → Purse S' p → Q (.int d) S') :=
  propext ⟨fun ⟨_, _, e, h⟩ => by cases e; exact h, fun h => ⟨_, _, rfl, h⟩⟩
theorem call_whole {p : Addr} {most : Int} {S : Sto} {Q : DK} {E : Addr → Sto → Prop} : sp_whole [.ref p, .int most] S Q E = (Purse S p ∧ 1 ≤ most ∧ most < 10 ^ 39 ∧ ∀ n S', -most ≤ n ∧ n ≤ most ∨ -9 ≤ n ∧ n ≤ 9 → But p S S' → Purse S' p → Q (.int n) S') :=
  propext ⟨fun ⟨_, _, e, h⟩ => by cases e; exact h, fun h => ⟨_, _, rfl, h⟩⟩
theorem call_isWhole {a : Int} {S : Sto} {Q : DK} {E : Addr → Sto → Prop} : sp_isWhole [.int a] S Q E = Q (.bl true) S :=
  propext ⟨fun ⟨_, e, h⟩ => by cases e; exact h, fun h => ⟨_, rfl, h⟩⟩
theorem call_isNumber {a b : Int} {S : Sto} {Q : DK} {E : Addr → Sto → Prop} : sp_isNumber [N2 a b] S Q E = Q (.bl (decide (0 < b) && decide (gcdI a b = 1))) S :=
  propext ⟨fun ⟨_, _, e, h⟩ => by cases e; exact h, fun h => ⟨_, _, rfl, h⟩⟩
theorem call_low {a b : Int} {S : Sto} {Q : DK} {E : Addr → Sto → Prop} : sp_low [.int a, .int b] S Q E = (b ≠ 0 ∧ Q (NN (nrm a b)) S) :=
  propext ⟨fun ⟨_, _, e, h⟩ => by cases e; exact h, fun h => ⟨_, _, rfl, h⟩⟩
theorem call_told {C : Cs} {a b : Int} {S : Sto} {Q : DK} {E : Addr → Sto → Prop} : sp_told C [.int a, .int b] S Q E = ((b = 0 → Q (.str "NoNumber") S) ∧ (b ≠ 0 → Q (NN (nrm a b)) S)) :=
  propext ⟨fun ⟨_, _, e, h⟩ => by cases e; exact h, fun h => ⟨_, _, rfl, h⟩⟩
theorem call_lover {C : Cs} {a b c d : Int} {S : Sto} {Q : DK} {E : Addr → Sto → Prop} : sp_lover C [N2 a b, N2 c d] S Q E = (IntMulOk a d ∧ IntMulOk b c ∧ (b * c = 0 → Q (.str "NoNumber") S) ∧ (b * c ≠ 0 → Q (NN (nrm (a * d) (b * c))) S)) :=
  propext ⟨fun ⟨_, _, _, _, e, h⟩ => by cases e; exact h, fun h => ⟨_, _, _, _, rfl, h⟩⟩
theorem call_right {a b c d : Int} {S : Sto} {Q : DK} {E : Addr → Sto → Prop} : sp_right [N2 a b, .int c, .int d] S Q E = (d ≠ 0 ∧ Q (.bl (decide (0 < b) && decide (gcdI a b = 1) && decide ((a, b) = nrm c d))) S) :=
  propext ⟨fun ⟨_, _, _, _, e, h⟩ => by cases e; exact h, fun h => ⟨_, _, _, _, rfl, h⟩⟩
theorem call_purse {ns : List Int} {k : Int} {S : Sto} {Q : DK} {E : Addr → Sto → Prop} (hn : ns.length ≤ 63) (h0 : 0 ≤ k) (h1 : k ≤ 1000) (h : ∀ p S', S p = none → But p S S' → Purse S' p → Q (.ref p) S') : sp_purse [.ltv (ns.map D.int), .int k] S Q E := ⟨_, _, rfl, hn, h0, h1, h⟩
theorem gcdI_nonneg (a b : Int) : 0 ≤ gcdI a b := Int.natCast_nonneg _
theorem gcdI_pos {a b : Int} (h : b ≠ 0) : 0 < gcdI a b := by
  unfold gcdI
  have := Int.gcd_pos_iff.mpr (Or.inr h : a ≠ 0 ∨ b ≠ 0)
  omega
theorem gcd_emod (x y : Int) : Int.gcd (x % y) y = Int.gcd x y := by
  have h := Int.gcd_add_mul_right_left y (x % y) (x / y)
  rw [Int.emod_add_ediv_mul] at h
  exact h.symm
theorem gcdI_step {x y : Int} (h : 0 < y) : gcdI y (x.fmod y) = gcdI x y := by
  unfold gcdI
  rw [Int.fmod_eq_emod_of_nonneg x (Int.le_of_lt h), Int.gcd_comm y, gcd_emod]
theorem gcdI_zero {x : Int} (h : 0 ≤ x) : gcdI x 0 = x := by
  unfold gcdI
  rw [Int.gcd_zero_right]
  omega
theorem gcdI_abs (a b : Int) : gcdI (if a < 0 then -a else a) (if b < 0 then -b else b) = gcdI a b := by
  unfold gcdI
  split <;> split <;> simp [Int.gcd_neg, Int.neg_gcd]
local macro_rules | `(tactic| walk_at "dl") => `(tactic| simp only [sSeq, sSet, sIf, sRet, sPar, sNext, sDrop, sAsg, sRaise, eBin, eUn, eVar, eC, eB, eM, eM0, eTup, eLst, eCall, eAndV, eOrV, eNotV, eIf, aCons, aNil, tVal, tAndD, tOrD, tNotD, cBl, dName, dSub, dTup, dLst, dCons, dNil,
  onI_ii, onIC_ii, oAdd_ii, oAdd_tt, oIadd_ii, oMul_ii, oNeg_i, oEq_ii, oNe_ii, oIx_t, oIx_v, oIx_r, oLen_t, oLen_v, oLen_r, oAbs_i, o2I_ii, oInt_i, oInt_b, oTuple_t, oTuple_r, isi_int, isi_bool, isi_tup, oSet_r, oAppend_r, isL_r, iLstD_r, lstAt_sup, rdAt_sup, ix0, ix1, ix2, ix3, sFor, iRange1, iRange2,
  call_divisor, call_number, call_plus, call_minus, call_times, call_over, call_draw, call_whole, call_isWhole, call_isNumber, call_low, call_told, call_lover, call_right,
  bodyEnds, bodyEX, List.set_cons_zero, List.set_cons_succ, List.getElem?_cons_zero, List.getElem?_cons_succ, decide_eq_true_eq, Bool.not_eq_true', decide_eq_false_iff_not, List.nil_append, List.append_nil, List.cons_append, Bool.false_eq_true, if_false, if_true, true_and, and_true])
/-- divisor: 0 one, 1 other -/
def t_divisor : DS :=
  (sSeq (sSet 0 (eB oAbs (aCons (eVar 0) aNil)))
  (sSeq (sSet 1 (eB oAbs (aCons (eVar 1) aNil)))
  (sSeq (sWhile (tVal (eBin oGt (eVar 1) (eC (.int 0)))) (sPar 0 1 (eVar 1) (eBin oMod (eVar 0) (eVar 1))))
  (sRet (eVar 0)))))
/-- number: 0 top, 1 bottom, 2 part -/
def t_number (C : Cs) : DS :=
  (sSeq (sIf (tVal (eBin oEq (eVar 1) (eC (.int 0)))) (sRaise C.nn) sNext)
  (sSeq (sSet 2 (eCall sp_divisor [] (aCons (eVar 0) (aCons (eVar 1) aNil))))
  (sSeq (sIf (tVal (eBin oLt (eVar 1) (eC (.int 0)))) (sSet 2 (eUn oNeg (eVar 2))) sNext)
  (sRet (eTup (aCons (eBin oFdiv (eVar 0) (eVar 2)) (aCons (eBin oFdiv (eVar 1) (eVar 2)) aNil)))))))
/-- plus: 0 one, 1 other -/
def t_plus (C : Cs) : DS :=
  (sSeq (sIf (tAndD (tVal (eBin oEq (eBin oIx (eVar 0) (eC (.int 1))) (eC (.int 1)))) (tVal (eBin oEq (eBin oIx (eVar 1) (eC (.int 1))) (eC (.int 1))))) (sRet (eTup (aCons (eBin oAdd (eBin oIx (eVar 0) (eC (.int 0))) (eBin oIx (eVar 1) (eC (.int 0)))) (aCons (eC (.int 1)) aNil)))) sNext)
  (sRet (eCall (sp_number C) [] (aCons (eBin oAdd (eBin oMul (eBin oIx (eVar 0) (eC (.int 0))) (eBin oIx (eVar 1) (eC (.int 1)))) (eBin oMul (eBin oIx (eVar 1) (eC (.int 0))) (eBin oIx (eVar 0) (eC (.int 1))))) (aCons (eBin oMul (eBin oIx (eVar 0) (eC (.int 1))) (eBin oIx (eVar 1) (eC (.int 1)))) aNil)))))
/-- minus: 0 one, 1 other -/
def t_minus (C : Cs) : DS :=
  (sRet (eCall (sp_plus C) [] (aCons (eVar 0) (aCons (eTup (aCons (eUn oNeg (eBin oIx (eVar 1) (eC (.int 0)))) (aCons (eBin oIx (eVar 1) (eC (.int 1))) aNil))) aNil))))
/-- times: 0 one, 1 other -/
def t_times (C : Cs) : DS :=
  (sSeq (sIf (tAndD (tVal (eBin oEq (eBin oIx (eVar 0) (eC (.int 1))) (eC (.int 1)))) (tVal (eBin oEq (eBin oIx (eVar 1) (eC (.int 1))) (eC (.int 1))))) (sRet (eTup (aCons (eBin oMul (eBin oIx (eVar 0) (eC (.int 0))) (eBin oIx (eVar 1) (eC (.int 0)))) (aCons (eC (.int 1)) aNil)))) sNext)
  (sRet (eCall (sp_number C) [] (aCons (eBin oMul (eBin oIx (eVar 0) (eC (.int 0))) (eBin oIx (eVar 1) (eC (.int 0)))) (aCons (eBin oMul (eBin oIx (eVar 0) (eC (.int 1))) (eBin oIx (eVar 1) (eC (.int 1)))) aNil)))))
/-- over: 0 one, 1 other -/
def t_over (C : Cs) : DS :=
  (sRet (eCall (sp_number C) [] (aCons (eBin oMul (eBin oIx (eVar 0) (eC (.int 0))) (eBin oIx (eVar 1) (eC (.int 1)))) (aCons (eBin oMul (eBin oIx (eVar 0) (eC (.int 1))) (eBin oIx (eVar 1) (eC (.int 0)))) aNil))))
def t__law_purse_4 : DS :=
  (sSeq (sIf (tVal (eBin oLt (eVar 2) (eBin oPow (eC (.int 10)) (eC (.int 18))))) (sSet 2 (eBin oPow (eC (.int 10)) (eC (.int 18)))) sNext)
  (sRet (eLst (aCons (eBin oSub (eVar 2) (eBin oPow (eC (.int 10)) (eC (.int 18)))) (aCons (eVar 3) (aCons (eBin oMod (eVar 1) (eC (.int 11))) aNil))))))
def t__law_purse_2 : DS :=
  (sSeq (sSet 3 (eBin oAdd (eC (.int 7919)) (eBin oMul (eC (.int 31)) (eVar 1))))
  (sSeq (sFor (iRange1 (aCons (eB oMin (aCons (eB oLen (aCons (eVar 0) aNil)) (aCons (eC (.int 40)) aNil))) aNil)) (dName 4) (sSet 3 (eBin oMod (eBin oAdd (eBin oAdd (eBin oPow (eVar 3) (eC (.int 3))) (eBin oMod (eBin oIx (eVar 0) (eVar 4)) (eC (.int 1000000007)))) (eVar 4)) (eC (.int 2147483629)))))
  (t__law_purse_4)))
/-- _law_purse: 0 _law_script, 1 _law_at, 2 _law_cell, 3 _law_mix, 4 _law_k -/
def t__law_purse : DS :=
  (sSeq (sSet 2 (eC (.int 0)))
  (sSeq (sIf (tVal (eBin oLt (eVar 1) (eB oLen (aCons (eVar 0) aNil)))) (sSet 2 (eB oAbs (aCons (eBin oIx (eVar 0) (eVar 1)) aNil))) sNext)
  (t__law_purse_2)))
def t__law_draw_1 : DS :=
  (sSeq (sSet 3 (eTup (aCons (eC (.int 99991)) (aCons (eC (.int 99989)) (aCons (eC (.int 99971)) (aCons (eC (.int 99961)) (aCons (eC (.int 99929)) (aCons (eC (.int 99923)) (aCons (eC (.int 99907)) (aCons (eC (.int 99901)) (aCons (eC (.int 99881)) (aCons (eC (.int 99877)) (aCons (eC (.int 99871)) aNil)))))))))))))
  (sSeq (sSet 4 (eC (.int 0)))
  (sSeq (sSet 5 (eC (.int 1)))
  (sSeq (sWhile (tVal (eBin oLt (eVar 5) (eBin oMul (eVar 1) (eC (.int 100))))) (sSeq (sAsg (eBin oMod (eBin oAdd (eBin oMul (eBin oIx (eVar 0) (eC (.int 1))) (eC (.int 48271))) (eC (.int 12345))) (eC (.int 2147483629))) (dSub (eVar 0) (eC (.int 1)) oSet))
  (sSeq (sAsg (eBin oMod (eBin oAdd (eBin oIx (eVar 0) (eC (.int 2))) (eC (.int 1))) (eC (.int 11))) (dSub (eVar 0) (eC (.int 2)) oSet))
  (sSeq (sSet 4 (eBin oAdd (eBin oMul (eVar 4) (eC (.int 99000))) (eBin oMod (eBin oPow (eBin oIx (eVar 0) (eC (.int 1))) (eC (.int 5))) (eBin oIx (eVar 3) (eBin oIx (eVar 0) (eC (.int 2)))))))
  (sSet 5 (eBin oMul (eVar 5) (eC (.int 99000))))))))
  (sRet (eBin oMod (eVar 4) (eVar 1)))))))
/-- _law_draw: 0 _law_purse_here, 1 _law_many, 2 _law_digit, 3 _law_primes, 4 _law_found, 5 _law_room -/
def t__law_draw : DS :=
  (sSeq (sIf (tVal (eBin oGt (eBin oIx (eVar 0) (eC (.int 0))) (eC (.int 0)))) (sSeq (sSet 2 (eBin oMod (eBin oIx (eVar 0) (eC (.int 0))) (eVar 1)))
  (sSeq (sAsg (eBin oFdiv (eBin oIx (eVar 0) (eC (.int 0))) (eVar 1)) (dSub (eVar 0) (eC (.int 0)) oSet))
  (sRet (eVar 2)))) sNext)
  (t__law_draw_1))
/-- _law_divisor: 0 _law_one, 1 _law_other -/
def t__law_divisor : DS :=
  (sSeq (sPar 0 1 (eB oAbs (aCons (eVar 0) aNil)) (eB oAbs (aCons (eVar 1) aNil)))
  (sSeq (sWhile (tVal (eBin oGt (eVar 1) (eC (.int 0)))) (sPar 0 1 (eVar 1) (eBin oMod (eVar 0) (eVar 1))))
  (sRet (eVar 0))))
/-- _law_low: 0 _law_top, 1 _law_bottom, 2 _law_part -/
def t__law_low : DS :=
  (sSeq (sSet 2 (eCall sp_divisor [] (aCons (eVar 0) (aCons (eVar 1) aNil))))
  (sSeq (sIf (tVal (eBin oLt (eVar 1) (eC (.int 0)))) (sSet 2 (eUn oNeg (eVar 2))) sNext)
  (sRet (eTup (aCons (eBin oFdiv (eVar 0) (eVar 2)) (aCons (eBin oFdiv (eVar 1) (eVar 2)) aNil))))))
/-- _law_whole: 0 _law_purse_here, 1 _law_most, 2 _law_way -/
def t__law_whole : DS :=
  (sSeq (sSet 2 (eCall sp_draw [] (aCons (eVar 0) (aCons (eC (.int 8)) aNil))))
  (sSeq (sIf (tVal (eBin oEq (eVar 2) (eC (.int 0)))) (sRet (eC (.int 0))) sNext)
  (sSeq (sIf (tVal (eBin oEq (eVar 2) (eC (.int 1)))) (sRet (eBin oAdd (eBin oSub (eCall sp_draw [] (aCons (eVar 0) (aCons (eBin oSub (eBin oMul (eC (.int 2)) (eVar 1)) (eC (.int 1))) aNil))) (eVar 1)) (eC (.int 1)))) sNext)
  (sRet (eBin oSub (eCall sp_draw [] (aCons (eVar 0) (aCons (eC (.int 19)) aNil))) (eC (.int 9)))))))
/-- _law_is_whole: 0 _law_found -/
def t__law_is_whole : DS :=
  (sRet (eAndV (eB oIsi (aCons (eVar 0) (aCons (eC (.ty "int")) aNil))) (eNotV (eB oIsi (aCons (eVar 0) (aCons (eC (.ty "bool")) aNil))))))
/-- _law_is_number: 0 _law_found -/
def t__law_is_number : DS :=
  (sSeq (sIf (tOrD (tNotD (tVal (eB oIsi (aCons (eVar 0) (aCons (eC (.ty "tuple")) aNil))))) (tOrD (tVal (eBin oNe (eB oLen (aCons (eVar 0) aNil)) (eC (.int 2)))) (tOrD (tNotD (tVal (eCall sp_isWhole [] (aCons (eBin oIx (eVar 0) (eC (.int 0))) aNil)))) (tNotD (tVal (eCall sp_isWhole [] (aCons (eBin oIx (eVar 0) (eC (.int 1))) aNil))))))) (sRet (eC (.bl false))) sNext)
  (sRet (eAndV (eBin oGt (eBin oIx (eVar 0) (eC (.int 1))) (eC (.int 0))) (eBin oEq (eCall sp_divisor [] (aCons (eBin oIx (eVar 0) (eC (.int 0))) (aCons (eBin oIx (eVar 0) (eC (.int 1))) aNil))) (eC (.int 1))))))
/-- _law_which: 0 _law_e, 1 _law_kinds; the error stands at a, b1 and b2 tell its class -/
def t__law_which (C : Cs) (a : Addr) (b1 b2 : Bool) : DS :=
  (sSeq (sSet 1 (eLst (aCons (eB (oIsX a (.ref C.nn) b1) (aCons (eVar 0) (aCons (eC (.ref C.nn)) aNil))) (aCons (eB (oIsX a (.ref C.np) b2) (aCons (eVar 0) (aCons (eC (.ref C.np)) aNil))) (aCons (eB (oIsX a (.tup ([C.ns, C.nt, C.nr, C.nm].map D.ref)) false) (aCons (eVar 0) (aCons (eTup (aCons (eC (.ref C.ns)) (aCons (eC (.ref C.nt)) (aCons (eC (.ref C.nr)) (aCons (eC (.ref C.nm)) aNil))))) aNil))) aNil)))))
  (sSeq (sIf (tOrD (tNotD (tVal (eB (oIsX a (.ty "ValueError") true) (aCons (eVar 0) (aCons (eC (.ty "ValueError")) aNil))))) (tVal (eBin oNeI (eM oCount (eVar 1) (aCons (eC (.bl true)) aNil)) (eC (.int 1))))) (sRet (eC (.str "other"))) sNext)
  (sRet (eBin oIx (eLst (aCons (eC (.str "NoNumber")) (aCons (eC (.str "NoPlace")) (aCons (eC (.str "other")) aNil)))) (eM oIndex (eVar 1) (aCons (eC (.bl true)) aNil))))))
/-- _law_told: 0 _law_top, 1 _law_bottom, 2 _law_e -/
def t__law_told (C : Cs) : DS :=
  (sTryW (sRet (eCall (sp_number C) [] (aCons (eVar 0) (aCons (eVar 1) aNil)))) (whichOf C))
/-- _law_over: 0 _law_one, 1 _law_other, 2 _law_e -/
def t__law_over (C : Cs) : DS :=
  (sTryW (sRet (eCall (sp_over C) [] (aCons (eVar 0) (aCons (eVar 1) aNil)))) (whichOf C))
/-- _law_right: 0 _law_found, 1 _law_top, 2 _law_bottom -/
def t__law_right : DS :=
  (sRet (eAndV (eCall sp_isNumber [] (aCons (eVar 0) aNil)) (eBin oEq (eVar 0) (eCall sp_low [] (aCons (eVar 1) (aCons (eVar 2) aNil))))))
def t_law_0_3_1 (C : Cs) : DS :=
  (sSeq (sIf (tOrD (tAndD (tVal (eBin oEq (eVar 6) (eC (.int 0)))) (tVal (eBin oNe (eVar 7) (eC (.str "NoNumber"))))) (tAndD (tVal (eBin oNe (eVar 6) (eC (.int 0)))) (tNotD (tVal (eCall sp_right [] (aCons (eVar 7) (aCons (eVar 5) (aCons (eVar 6) aNil)))))))) (sRet (eC (.bl false))) sNext)
  (sDrop (eM oAppend (eVar 4) (aCons (eCall sp_low [] (aCons (eVar 5) (aCons (eBin oAdd (eVar 6) (eB oInt (aCons (eBin oEq (eVar 6) (eC (.int 0))) aNil))) aNil))) aNil))))
def t_law_0_10 (C : Cs) : DS :=
  (sSeq (sSet 7 (eCall (sp_lover C) [] (aCons (eVar 8) (aCons (eVar 9) aNil))))
  (sIf (tOrD (tAndD (tVal (eBin oEq (eBin oIx (eVar 9) (eC (.int 0))) (eC (.int 0)))) (tVal (eBin oNe (eVar 7) (eC (.str "NoNumber"))))) (tAndD (tVal (eBin oNe (eBin oIx (eVar 9) (eC (.int 0))) (eC (.int 0)))) (tNotD (tVal (eCall sp_right [] (aCons (eVar 7) (aCons (eBin oIx (eVar 10) (eC (.int 0))) (aCons (eBin oIx (eVar 10) (eC (.int 1))) aNil)))))))) (sRet (eC (.bl false))) sNext))
def t_law_0_9 (C : Cs) : DS :=
  (sSeq (sIf (tNotD (tVal (eCall sp_right [] (aCons (eCall (sp_times C) [] (aCons (eVar 8) (aCons (eVar 9) aNil))) (aCons (eBin oMul (eBin oIx (eVar 8) (eC (.int 0))) (eBin oIx (eVar 9) (eC (.int 0)))) (aCons (eBin oIx (eVar 10) (eC (.int 2))) aNil)))))) (sRet (eC (.bl false))) sNext)
  (t_law_0_10 C))
def t_law_0_8 (C : Cs) : DS :=
  (sSeq (sIf (tNotD (tVal (eCall sp_right [] (aCons (eCall (sp_minus C) [] (aCons (eVar 8) (aCons (eVar 9) aNil))) (aCons (eBin oSub (eBin oIx (eVar 10) (eC (.int 0))) (eBin oIx (eVar 10) (eC (.int 1)))) (aCons (eBin oIx (eVar 10) (eC (.int 2))) aNil)))))) (sRet (eC (.bl false))) sNext)
  (t_law_0_9 C))
def t_law_0_7 (C : Cs) : DS :=
  (sSeq (sIf (tNotD (tVal (eCall sp_right [] (aCons (eCall (sp_plus C) [] (aCons (eVar 8) (aCons (eVar 9) aNil))) (aCons (eBin oAdd (eBin oIx (eVar 10) (eC (.int 0))) (eBin oIx (eVar 10) (eC (.int 1)))) (aCons (eBin oIx (eVar 10) (eC (.int 2))) aNil)))))) (sRet (eC (.bl false))) sNext)
  (t_law_0_8 C))
def t_law_0_6 (C : Cs) : DS :=
  (sSeq (sSet 10 (eTup (aCons (eBin oMul (eBin oIx (eVar 8) (eC (.int 0))) (eBin oIx (eVar 9) (eC (.int 1)))) (aCons (eBin oMul (eBin oIx (eVar 9) (eC (.int 0))) (eBin oIx (eVar 8) (eC (.int 1)))) (aCons (eBin oMul (eBin oIx (eVar 8) (eC (.int 1))) (eBin oIx (eVar 9) (eC (.int 1)))) aNil)))))
  (t_law_0_7 C))
def t_law_0_5 (C : Cs) : DS :=
  (sSeq (sIf (tVal (eBin oNe (eCall (sp_number C) [.int 1] (aCons (eBin oIx (eBin oIx (eVar 3) (eC (.int 0))) (eC (.int 0))) aNil)) (eTup (aCons (eBin oIx (eBin oIx (eVar 3) (eC (.int 0))) (eC (.int 0))) (aCons (eC (.int 1)) aNil))))) (sRet (eC (.bl false))) sNext)
  (t_law_0_6 C))
def t_law_0_4 (C : Cs) : DS :=
  (sSeq (sAsg (eVar 4) (dLst 2 (dCons (dName 8) (dCons (dName 9) dNil))))
  (t_law_0_5 C))
def t_law_0_2 (C : Cs) : DS :=
  (sSeq (sSet 4 (eLst aNil))
  (sSeq (sFor (iLstD (eVar 3)) (dTup 2 (dCons (dName 5) (dCons (dName 6) dNil))) (sSeq (sSet 7 (eCall (sp_told C) [] (aCons (eVar 5) (aCons (eVar 6) aNil))))
  (t_law_0_3_1 C)))
  (t_law_0_4 C)))
/-- law: 0 _law_script, 1 _law_k, 2 _law_purse_here, 3 _law_pairs, 4 _law_made, 5 _law_top, 6 _law_bottom, 7 _law_told_here, 8 _law_one, 9 _law_other, 10 _law_crossed, 11 _law_again -/
def t_law (C : Cs) : DS :=
  (sSeq (sFor (iRange1 (aCons (eB oMax (aCons (eC (.int 1)) (aCons (eB oMin (aCons (eC (.int 6)) (aCons (eB oLen (aCons (eVar 0) aNil)) aNil))) aNil))) aNil)) (dName 1) (sSeq (sSet 2 (eCall sp_purse [] (aCons (eVar 0) (aCons (eVar 1) aNil))))
  (sSeq (sSet 3 (eLc (iRange1 (aCons (eC (.int 2)) aNil)) (dName 11) tYesD (eTup (aCons (eCall sp_whole [] (aCons (eVar 2) (aCons (eBin oPow (eC (.int 10)) (eC (.int 30))) aNil))) (aCons (eCall sp_whole [] (aCons (eVar 2) (aCons (eBin oPow (eC (.int 10)) (eC (.int 30))) aNil))) aNil))) [11]))
  (t_law_0_2 C))))
  (sRet (eC (.bl true))))
theorem sz0 : 0 ≤ sizeLine := by decide
theorem sz1 : 1 ≤ sizeLine := by decide
theorem sz2 : 2 ≤ sizeLine := by decide
theorem sz3 : 3 ≤ sizeLine := by decide
theorem sz4 : 4 ≤ sizeLine := by decide
theorem sz11 : 11 ≤ sizeLine := by decide
theorem loop_divisor {EX : EXK} {S : Sto} {T : DEnds} (a b : Int) (ha : 0 ≤ a) (hb : 0 ≤ b) (h : T.nx [some (.int (gcdI a b)), some (.int 0)] S) :
    sWhile (tVal (eBin oGt (eVar 1) (eC (.int 0)))) (sPar 0 1 (eVar 1) (eBin oMod (eVar 0) (eVar 1))) EX T [some (.int a), some (.int b)] S := by
  refine ⟨fun m δ S' => ∃ x y : Int, 0 ≤ x ∧ 0 ≤ y ∧ gcdI x y = gcdI a b ∧ δ = [some (.int x), some (.int y)] ∧ S' = S ∧ m = y.toNat, ⟨_, a, b, ha, hb, rfl, rfl, rfl, rfl⟩, ?_⟩
  rintro m δ S' ⟨x, y, hx, hy, hg, rfl, rfl, rfl⟩
  walk_at "dl"
  split
  · rename_i h0
    refine ⟨by omega, (x.fmod y).toNat, ?_, y, x.fmod y, hy, ?_, ?_, rfl, rfl⟩
    · have := Int.fmod_lt_of_pos x h0
      have := Int.fmod_nonneg_of_pos x h0
      omega
    · exact Int.fmod_nonneg_of_pos x h0
    · rw [gcdI_step h0, hg]
  · rename_i h0
    obtain rfl : y = 0 := by omega
    rw [gcdI_zero hx] at hg
    rw [hg]
    exact h
theorem sem_divisor : ∀ ds S Q E, sp_divisor ds S Q E → t_divisor (bodyEX E) (bodyEnds Q) (dstart ["one", "other"] ds) S := by
  rintro ds S Q E ⟨a, b, rfl, h⟩
  show t_divisor (bodyEX E) (bodyEnds Q) [some (.int a), some (.int b)] S
  unfold t_divisor
  walk_at "dl"
  refine loop_divisor _ _ (by split <;> omega) (by split <;> omega) ?_
  walk_at "dl"
  rw [gcdI_abs]
  exact ⟨S, Sub.refl S, h⟩
theorem sem__law_divisor : ∀ ds S Q E, sp_divisor ds S Q E → t__law_divisor (bodyEX E) (bodyEnds Q) (dstart ["_law_one", "_law_other"] ds) S := by
  rintro ds S Q E ⟨a, b, rfl, h⟩
  show t__law_divisor (bodyEX E) (bodyEnds Q) [some (.int a), some (.int b)] S
  unfold t__law_divisor
  walk_at "dl"
  refine loop_divisor _ _ (by split <;> omega) (by split <;> omega) ?_
  walk_at "dl"
  rw [gcdI_abs]
  exact ⟨S, Sub.refl S, h⟩
theorem sem_number {C : Cs} : ∀ ds S Q E, sp_number C ds S Q E → t_number C (bodyEX E) (bodyEnds Q) (dstart ["top", "bottom", "part"] ds) S := by
  rintro ds S Q E ⟨a, b, rfl, h1, h2⟩
  show t_number C (bodyEX E) (bodyEnds Q) [some (.int a), some (.int b), none] S
  unfold t_number
  walk_at "dl"
  split
  · exact ⟨S, Sub.refl S, h1 ‹_›⟩
  · rename_i h0
    have hg := gcdI_pos (a := a) h0
    split
    · rename_i h3
      refine ⟨by omega, by omega, sz2, S, Sub.refl S, ?_⟩
      have e := h2 h0
      unfold nrm at e
      rw [if_pos h3] at e
      exact e
    · rename_i h3
      refine ⟨by omega, by omega, sz2, S, Sub.refl S, ?_⟩
      have e := h2 h0
      unfold nrm at e
      rw [if_neg h3] at e
      exact e
theorem sem__law_low : ∀ ds S Q E, sp_low ds S Q E → t__law_low (bodyEX E) (bodyEnds Q) (dstart ["_law_top", "_law_bottom", "_law_part"] ds) S := by
  rintro ds S Q E ⟨a, b, rfl, h0, h2⟩
  show t__law_low (bodyEX E) (bodyEnds Q) [some (.int a), some (.int b), none] S
  unfold t__law_low
  walk_at "dl"
  have hg := gcdI_pos (a := a) h0
  unfold nrm at h2
  split
  · rename_i h3
    refine ⟨by omega, by omega, sz2, S, Sub.refl S, ?_⟩
    rw [if_pos h3] at h2
    exact h2
  · rename_i h3
    refine ⟨by omega, by omega, sz2, S, Sub.refl S, ?_⟩
    rw [if_neg h3] at h2
    exact h2
theorem nrm_one (a : Int) : nrm a 1 = (a, 1) := by
  have e : gcdI a 1 = 1 := by unfold gcdI; simp
  unfold nrm
  rw [if_neg (by decide), e]
  simp
theorem sem_plus {C : Cs} : ∀ ds S Q E, sp_plus C ds S Q E → t_plus C (bodyEX E) (bodyEnds Q) (dstart ["one", "other"] ds) S := by
  rintro ds S Q E ⟨a, b, c, d, rfl, hb, hd, m1, m2, m3, h⟩
  show t_plus C (bodyEX E) (bodyEnds Q) [some (N2 a b), some (N2 c d)] S
  unfold t_plus
  walk_at "dl"
  have main : IntMulOk a d ∧ IntMulOk c b ∧ IntMulOk b d ∧ (b * d = 0 → ∃ S0, Sub S0 S ∧ E C.nn S0) ∧ (b * d ≠ 0 → ∃ S0, Sub S0 S ∧ Q (NN (nrm (a * d + c * b) (b * d))) S0) :=
    ⟨m1, m2, m3, fun z => absurd z (Int.mul_ne_zero hb hd), fun _ => ⟨S, Sub.refl S, h⟩⟩
  split
  · rename_i e1
    split
    · rename_i e2
      subst e1 e2
      rw [Int.mul_one, Int.mul_one, Int.mul_one, nrm_one] at h
      exact ⟨sz2, S, Sub.refl S, h⟩
    · exact main
  · exact main
theorem sem_minus {C : Cs} : ∀ ds S Q E, sp_minus C ds S Q E → t_minus C (bodyEX E) (bodyEnds Q) (dstart ["one", "other"] ds) S := by
  rintro ds S Q E ⟨a, b, c, d, rfl, hb, hd, m1, m2, m3, h⟩
  show t_minus C (bodyEX E) (bodyEnds Q) [some (N2 a b), some (N2 c d)] S
  unfold t_minus
  walk_at "dl"
  exact ⟨sz2, hb, hd, m1, m2, m3, S, Sub.refl S, h⟩
theorem sem_times {C : Cs} : ∀ ds S Q E, sp_times C ds S Q E → t_times C (bodyEX E) (bodyEnds Q) (dstart ["one", "other"] ds) S := by
  rintro ds S Q E ⟨a, b, c, d, rfl, hb, hd, m1, m2, h⟩
  show t_times C (bodyEX E) (bodyEnds Q) [some (N2 a b), some (N2 c d)] S
  unfold t_times
  walk_at "dl"
  have main : IntMulOk a c ∧ IntMulOk b d ∧ (b * d = 0 → ∃ S0, Sub S0 S ∧ E C.nn S0) ∧ (b * d ≠ 0 → ∃ S0, Sub S0 S ∧ Q (NN (nrm (a * c) (b * d))) S0) :=
    ⟨m1, m2, fun z => absurd z (Int.mul_ne_zero hb hd), fun _ => ⟨S, Sub.refl S, h⟩⟩
  split
  · rename_i e1
    split
    · rename_i e2
      subst e1 e2
      rw [Int.mul_one, nrm_one] at h
      exact ⟨m1, sz2, S, Sub.refl S, h⟩
    · exact main
  · exact main
theorem sem_over {C : Cs} : ∀ ds S Q E, sp_over C ds S Q E → t_over C (bodyEX E) (bodyEnds Q) (dstart ["one", "other"] ds) S := by
  rintro ds S Q E ⟨a, b, c, d, rfl, m1, m2, h1, h2⟩
  show t_over C (bodyEX E) (bodyEnds Q) [some (N2 a b), some (N2 c d)] S
  unfold t_over
  walk_at "dl"
  exact ⟨m1, m2, fun z => ⟨S, Sub.refl S, h1 z⟩, fun z => ⟨S, Sub.refl S, h2 z⟩⟩
theorem sem__law_is_whole : ∀ ds S Q E, sp_isWhole ds S Q E → t__law_is_whole (bodyEX E) (bodyEnds Q) (dstart ["_law_found"] ds) S := by
  rintro ds S Q E ⟨a, rfl, h⟩
  show t__law_is_whole (bodyEX E) (bodyEnds Q) [some (.int a)] S
  unfold t__law_is_whole
  walk_at "dl"
  exact ⟨S, Sub.refl S, h⟩
theorem sem__law_is_number : ∀ ds S Q E, sp_isNumber ds S Q E → t__law_is_number (bodyEX E) (bodyEnds Q) (dstart ["_law_found"] ds) S := by
  rintro ds S Q E ⟨a, b, rfl, h⟩
  show t__law_is_number (bodyEX E) (bodyEnds Q) [some (N2 a b)] S
  unfold t__law_is_number
  walk_at "dl"
  rw [if_neg (by decide), if_neg (by simp), if_neg (by decide), if_neg (by decide)]
  split
  · rename_i h0
    rw [decide_eq_true h0, Bool.true_and] at h
    exact ⟨S, Sub.refl S, h⟩
  · rename_i h0
    rw [decide_eq_false h0, Bool.false_and] at h
    exact ⟨S, Sub.refl S, h⟩
theorem sem__law_told {C : Cs} : ∀ ds S Q E, sp_told C ds S Q E → t__law_told C (bodyEX E) (bodyEnds Q) (dstart ["_law_top", "_law_bottom", "_law_e"] ds) S := by
  rintro ds S Q E ⟨a, b, rfl, h1, h2⟩
  show t__law_told C (bodyEX E) (bodyEnds Q) [some (.int a), some (.int b), none] S
  unfold t__law_told sTryW
  walk_at "dl"
  have e : whichOf C C.nn = some "NoNumber" := if_pos rfl
  rw [e]
  exact ⟨fun z => ⟨S, Sub.refl S, h1 z⟩, fun z => ⟨S, Sub.refl S, h2 z⟩⟩
theorem sem__law_over {C : Cs} : ∀ ds S Q E, sp_lover C ds S Q E → t__law_over C (bodyEX E) (bodyEnds Q) (dstart ["_law_one", "_law_other", "_law_e"] ds) S := by
  rintro ds S Q E ⟨a, b, c, d, rfl, m1, m2, h1, h2⟩
  show t__law_over C (bodyEX E) (bodyEnds Q) [some (N2 a b), some (N2 c d), none] S
  unfold t__law_over sTryW
  walk_at "dl"
  have e : whichOf C C.nn = some "NoNumber" := if_pos rfl
  rw [e]
  exact ⟨m1, m2, fun z => ⟨S, Sub.refl S, h1 z⟩, fun z => ⟨S, Sub.refl S, h2 z⟩⟩
theorem oCount_r {S : Sto} {Q : DK} {p : Addr} {d : D} : oCount (.ref p) [d] S Q = match rdAt S p with
    | some ds => flatD d = true ∧ ds.all flatD = true ∧ Q (.int (ds.countP (fun e => eqFlat e d) : Nat)) S
    | none => False := ex_rd
theorem oIndex_r {S : Sto} {Q : DK} {p : Addr} {d : D} : oIndex (.ref p) [d] S Q = match rdAt S p with
    | some ds => flatD d = true ∧ ds.all flatD = true ∧ (match ds.findIdx? (fun e => eqFlat e d) with
      | some j => Q (.int (j : Nat)) S
      | none => False)
    | none => False := ex_rd
theorem sem__law_which {C : Cs} (hd : C.nn ≠ C.np) : ∀ a c z S, whichOf C c = some z → t__law_which C a (decide (c = C.nn)) (decide (c = C.np)) EX0 { nx := fun _ _ => False, rt := fun d S' => d = .str z ∧ Sub S S' } (dstart ["_law_e", "_law_kinds"] [.ref a]) S := by
  intro a c z S hz
  show t__law_which C a (decide (c = C.nn)) (decide (c = C.np)) EX0 { nx := fun _ _ => False, rt := fun d S' => d = .str z ∧ Sub S S' } [some (.ref a), none] S
  have fin : ∀ (b1 b2 : Bool), (b1 = true ∧ b2 = false ∧ z = "NoNumber" ∨ b1 = false ∧ b2 = true ∧ z = "NoPlace") → t__law_which C a b1 b2 EX0 { nx := fun _ _ => False, rt := fun d S' => d = .str z ∧ Sub S S' } [some (.ref a), none] S := by
    intro b1 b2 h
    unfold t__law_which
    walk_at "dl"
    unfold oIsX
    refine ⟨rfl, rfl, sz4, rfl, sz3, fun p np => ?_⟩
    walk_at "dl"
    rw [if_neg (by decide)]
    simp only [oCount_r, oIndex_r, rdAt_sup]
    rcases h with ⟨rfl, rfl, rfl⟩ | ⟨rfl, rfl, rfl⟩
    · refine ⟨rfl, rfl, ?_⟩
      show oNeI (.int 1) (.int 1) _ _
      walk_at "dl"
      rw [if_neg (by decide)]
      refine ⟨sz3, fun q nq => ?_⟩
      have hpq : p ≠ q := by rintro rfl; rw [sup_same] at nq; cases nq
      rw [rdAt_ne hpq, rdAt_sup]
      refine ⟨trivial, rfl, rfl, ?_⟩
      exact ⟨rfl, (Sub.new np).trans (Sub.new nq)⟩
    · refine ⟨rfl, rfl, ?_⟩
      show oNeI (.int 1) (.int 1) _ _
      walk_at "dl"
      rw [if_neg (by decide)]
      refine ⟨sz3, fun q nq => ?_⟩
      have hpq : p ≠ q := by rintro rfl; rw [sup_same] at nq; cases nq
      rw [rdAt_ne hpq, rdAt_sup]
      refine ⟨trivial, rfl, rfl, ?_⟩
      exact ⟨rfl, (Sub.new np).trans (Sub.new nq)⟩
  unfold whichOf at hz
  split at hz
  · rename_i e
    cases hz
    rw [decide_eq_true e, decide_eq_false (by rw [e]; exact hd)]
    exact fin true false (.inl ⟨rfl, rfl, rfl⟩)
  · rename_i e0
    split at hz
    · rename_i e
      cases hz
      rw [decide_eq_false e0, decide_eq_true e]
      exact fin false true (.inr ⟨rfl, rfl, rfl⟩)
    · cases hz
theorem But.trans {p : Addr} {S S1 S2 : Sto} (a : But p S S1) (b : But p S1 S2) : But p S S2 := fun q h => (b q h).trans (a q h)
theorem But.refl (p : Addr) (S : Sto) : But p S S := fun _ _ => rfl
theorem But.sup {p : Addr} {S : Sto} {o : MO} : But p S (sup S p o) := fun _ h => sup_ne h
theorem sem__law_whole : ∀ ds S Q E, sp_whole ds S Q E → t__law_whole (bodyEX E) (bodyEnds Q) (dstart ["_law_purse_here", "_law_most", "_law_way"] ds) S := by
  rintro ds S Q E ⟨p, most, rfl, hp, h1, h2, h⟩
  show t__law_whole (bodyEX E) (bodyEnds Q) [some (.ref p), some (.int most), none] S
  unfold t__law_whole
  walk_at "dl"
  refine ⟨hp, by decide, by decide, fun d S' d0 d1 b hp' => ?_⟩
  split
  · exact ⟨S', Sub.refl S', h 0 S' (.inr ⟨by decide, by decide⟩) b hp'⟩
  · split
    · refine ⟨mulok_left (by decide) (by decide), hp', by omega, by omega, fun d2 S2 e0 e1 b2 hp2 => ⟨S2, Sub.refl S2, h _ S2 (.inl ⟨by omega, by omega⟩) (b.trans b2) hp2⟩⟩
    · exact ⟨hp', by decide, by decide, fun d2 S2 e0 e1 b2 hp2 => ⟨S2, Sub.refl S2, h _ S2 (.inr ⟨by omega, by omega⟩) (b.trans b2) hp2⟩⟩
theorem oEq_nn {a b c d : Int} {S : Sto} {Q : DK} : oEq (N2 a b) (N2 c d) S Q = Q (.bl (decide (a = c) && decide (b = d))) S := by
  have e : PyData.eqv (.tuple [.int a, .int b]) (.tuple [.int c, .int d]) = (decide (a = c) && decide (b = d)) := by
    simp only [PyData.eqv, PyData.eqvAll, Bool.and_true, Bool.beq_eq_decide_eq]
  apply propext
  constructor
  · rintro ⟨x, y, e1, e2, _, _, h⟩
    cases e1
    cases e2
    rw [e] at h
    exact h
  · intro h
    exact ⟨_, _, rfl, rfl, rfl, rfl, by rw [e]; exact h⟩
theorem sem__law_right : ∀ ds S Q E, sp_right ds S Q E → t__law_right (bodyEX E) (bodyEnds Q) (dstart ["_law_found", "_law_top", "_law_bottom"] ds) S := by
  rintro ds S Q E ⟨a, b, c, d, rfl, h0, h⟩
  show t__law_right (bodyEX E) (bodyEnds Q) [some (N2 a b), some (.int c), some (.int d)] S
  unfold t__law_right
  walk_at "dl"
  split
  · rename_i e
    refine ⟨h0, ?_⟩
    rw [oEq_nn]
    rw [e, Bool.true_and] at h
    refine ⟨S, Sub.refl S, ?_⟩
    have e2 : decide ((a, b) = nrm c d) = (decide (a = (nrm c d).1) && decide (b = (nrm c d).2)) := by
      rw [Bool.eq_iff_iff]
      simp [Prod.ext_iff]
    rw [e2] at h
    exact h
  · rename_i e
    rw [Bool.not_eq_true] at e
    rw [e, Bool.false_and] at h
    exact ⟨S, Sub.refl S, h⟩
theorem e18 : (10 : Int) ^ Int.toNat 18 = 1000000000000000000 := by decide
theorem purse_4 {EX : EXK} {Q : DK} {S : Sto} {sc : D} {k cell mix : Int} {o : Option D} (h1 : 0 ≤ cell) (h2 : 0 ≤ mix) (h3 : mix < 2147483629) (h : ∀ p S', S p = none → But p S S' → Purse S' p → Q (.ref p) S') :
    t__law_purse_4 EX (bodyEnds Q) [some sc, some (.int k), some (.int cell), some (.int mix), o] S := by
  have fin : ∀ c : Int, 0 ≤ c → ∀ p, S p = none → ∃ S0, Sub S0 (sup S p (.lst [.int c, .int mix, .int (k.fmod 11)])) ∧ Q (.ref p) S0 := fun c hc p np =>
    ⟨_, Sub.refl _, h p _ np But.sup ⟨c, mix, k.fmod 11, sup_same, hc, h2, h3, Int.fmod_nonneg_of_pos k (by decide), Int.fmod_lt_of_pos k (by decide)⟩⟩
  unfold t__law_purse_4
  walk_at "dl"
  rw [e18]
  refine ⟨⟨by decide, by decide, by decide⟩, ?_⟩
  split
  · exact ⟨⟨by decide, by decide, by decide⟩, ⟨by decide, by decide, by decide⟩, (show (11 : Int) ≠ 0 by decide), sz3, fin _ (by omega)⟩
  · exact ⟨⟨by decide, by decide, by decide⟩, (show (11 : Int) ≠ 0 by decide), sz3, fin _ (by omega)⟩
theorem loop_purse {EX : EXK} {T : DEnds} {S : Sto} {ns : List Int} {k cell : D} : ∀ (ks : List Int) (mix : Int) (o : Option D), (∀ j ∈ ks, 0 ≤ j ∧ j < ns.length) → 0 ≤ mix → mix < 2147483629 →
    (∀ (m : Int) (o' : Option D), 0 ≤ m → m < 2147483629 → T.nx [some (.ltv (ns.map D.int)), some k, some cell, some (.int m), o'] S) →
    sForIn (fun _ => True) (dName 4) (sSet 3 (eBin oMod (eBin oAdd (eBin oAdd (eBin oPow (eVar 3) (eC (.int 3))) (eBin oMod (eBin oIx (eVar 0) (eVar 4)) (eC (.int 1000000007)))) (eVar 4)) (eC (.int 2147483629)))) (ks.map D.int) EX T
      [some (.ltv (ns.map D.int)), some k, some cell, some (.int mix), o] S
  | [], mix, o, _, h1, h2, h => ⟨trivial, h mix o h1 h2⟩
  | j :: ks, mix, o, hk, h1, h2, h => by
    have hj := hk j List.mem_cons_self
    refine ⟨trivial, ?_⟩
    walk_at "dl"
    rw [ix_int hj.1 hj.2]
    refine ⟨⟨by decide, by decide, by omega⟩, (show (1000000007 : Int) ≠ 0 by decide), (show (2147483629 : Int) ≠ 0 by decide), ?_⟩
    exact loop_purse ks _ _ (fun i hi => hk i (List.mem_cons_of_mem _ hi)) (Int.fmod_nonneg_of_pos _ (by decide)) (Int.fmod_lt_of_pos _ (by decide)) h
theorem irng_eq (lo : Int) (n : Nat) : irng lo n = ((List.range n).map fun (i : Nat) => lo + (i : Int)).map D.int := by
  unfold irng
  rw [List.map_map]
  rfl
theorem sem__law_purse : ∀ ds S Q E, sp_purse ds S Q E → t__law_purse (bodyEX E) (bodyEnds Q) (dstart ["_law_script", "_law_at", "_law_cell", "_law_mix", "_law_k"] ds) S := by
  rintro ds S Q E ⟨ns, k, rfl, hn, h0, h1, h⟩
  show t__law_purse (bodyEX E) (bodyEnds Q) [some (.ltv (ns.map D.int)), some (.int k), none, none, none] S
  have rest : ∀ c : Int, 0 ≤ c → t__law_purse_2 (bodyEX E) (bodyEnds Q) [some (.ltv (ns.map D.int)), some (.int k), some (.int c), none, none] S := by
    intro c hc
    unfold t__law_purse_2
    walk_at "dl"
    rw [List.length_map]
    refine ⟨mulok_left (by decide) (by decide), by split <;> omega, by split <;> omega, ?_⟩
    rw [irng_eq]
    refine loop_purse _ _ _ (fun j hj => ?_) (by omega) (by omega) fun m o h2 h3 => purse_4 hc h2 h3 h
    obtain ⟨i, hi, rfl⟩ := List.mem_map.mp hj
    have hi' := List.mem_range.mp hi
    split at hi' <;> omega
  unfold t__law_purse
  simp only [sSeq, sSet, sIf, sNext, tVal, eC, eBin, eVar, eB, aCons, aNil, oLen_v, onI_ii, cBl, oIx_v, List.set_cons_zero, List.set_cons_succ, List.getElem?_cons_zero, List.getElem?_cons_succ]
  rw [List.length_map]
  by_cases hk : k < ns.length
  · rw [if_pos (decide_eq_true hk), ix_int h0 hk]
    exact rest _ (by split <;> omega)
  · rw [if_neg (by simpa using hk)]
    exact rest 0 (by decide)
abbrev primes11 : List D := [.int 99991, .int 99989, .int 99971, .int 99961, .int 99929, .int 99923, .int 99907, .int 99901, .int 99881, .int 99877, .int 99871]
theorem prime_at {z : Int} (h0 : 0 ≤ z) (h1 : z < 11) : ∃ q, q ≠ 0 ∧ ix primes11 z = some (.int q) := by
  have h : z = 0 ∨ z = 1 ∨ z = 2 ∨ z = 3 ∨ z = 4 ∨ z = 5 ∨ z = 6 ∨ z = 7 ∨ z = 8 ∨ z = 9 ∨ z = 10 := by omega
  rcases h with rfl | rfl | rfl | rfl | rfl | rfl | rfl | rfl | rfl | rfl | rfl <;> exact ⟨_, by decide, rfl⟩
theorem ixN3 : ixN 3 0 = some 0 ∧ ixN 3 1 = some 1 ∧ ixN 3 2 = some 2 := by decide
theorem draw_1 {EX : EXK} {Q : DK} {S : Sto} {p : Addr} {many x y z : Int} {o1 o2 o3 o4 : Option D} (hp : S p = some (.lst [.int x, .int y, .int z])) (hx : 0 ≤ x) (hy : 0 ≤ y) (hy2 : y < 2147483629) (hz : 0 ≤ z) (hz2 : z < 11) (h1 : 1 ≤ many)
    (h : ∀ d S', 0 ≤ d → d < many → But p S S' → Purse S' p → Q (.int d) S') : t__law_draw_1 EX (bodyEnds Q) [some (.ref p), some (.int many), o1, o2, o3, o4] S := by
  unfold t__law_draw_1
  walk_at "dl"
  refine ⟨sz11, ?_⟩
  refine ⟨fun m δ S' => ∃ f r y z : Int, 1 ≤ r ∧ 0 ≤ y ∧ y < 2147483629 ∧ 0 ≤ z ∧ z < 11 ∧ S' p = some (.lst [.int x, .int y, .int z]) ∧ But p S S' ∧ δ = [some (.ref p), some (.int many), o1, some (.tup primes11), some (.int f), some (.int r)] ∧ m = (many * 100 - r).toNat,
    ⟨_, 0, 1, y, z, by omega, hy, hy2, hz, hz2, hp, But.refl p S, rfl, rfl⟩, ?_⟩
  rintro m δ S' ⟨f, r, y, z, hr, hy, hy2, hz, hz2, hS, hb, rfl, rfl⟩
  have l1 := lstAt_iff.mpr hS
  have l2 := rdAt_of l1
  walk_at "dl"
  refine ⟨mulok_right (by decide) (by decide), ?_⟩
  by_cases hlt : r < many * 100
  · rw [if_pos hlt, l2]
    walk_at "dl"
    rw [l1]
    simp only [List.length_cons, List.length_nil, Nat.zero_add, Nat.reduceAdd, ixN3.1, ixN3.2.1, ixN3.2.2, lstAt_sup, rdAt_sup, List.set_cons_zero, List.set_cons_succ]
    walk_at "dl"
    simp only [List.length_cons, List.length_nil, Nat.zero_add, Nat.reduceAdd, ixN3.1, ixN3.2.1, ixN3.2.2, lstAt_sup, rdAt_sup, List.set_cons_zero, List.set_cons_succ]
    walk_at "dl"
    have a1 := Int.fmod_nonneg_of_pos (y * 48271 + 12345) (show (0 : Int) < 2147483629 by decide)
    have a2 := Int.fmod_lt_of_pos (y * 48271 + 12345) (show (0 : Int) < 2147483629 by decide)
    have b1 := Int.fmod_nonneg_of_pos (z + 1) (show (0 : Int) < 11 by decide)
    have b2 := Int.fmod_lt_of_pos (z + 1) (show (0 : Int) < 11 by decide)
    obtain ⟨q, hq, eq⟩ := prime_at b1 b2
    rw [eq]
    walk_at "dl"
    refine ⟨mulok_right (by decide) (by decide), (show (2147483629 : Int) ≠ 0 by decide), (show (11 : Int) ≠ 0 by decide), mulok_right (by decide) (by decide), ⟨by decide, by decide, by omega⟩, hq, mulok_right (by decide) (by decide), (many * 100 - r * 99000).toNat, by omega, _, r * 99000, _, _, by omega, a1, a2, b1, b2, sup_same, ?_, rfl, rfl⟩
    exact (hb.trans But.sup).trans But.sup
  · rw [if_neg hlt]
    have hm : many ≠ 0 := by omega
    exact ⟨hm, S', Sub.refl S', h _ S' (Int.fmod_nonneg_of_pos f (by omega)) (Int.fmod_lt_of_pos f (by omega)) hb ⟨x, y, z, hS, hx, hy, hy2, hz, hz2⟩⟩
theorem sem__law_draw : ∀ ds S Q E, sp_draw ds S Q E → t__law_draw (bodyEX E) (bodyEnds Q) (dstart ["_law_purse_here", "_law_many", "_law_digit", "_law_primes", "_law_found", "_law_room"] ds) S := by
  rintro ds S Q E ⟨p, many, rfl, ⟨x, y, z, hp, hx, hy, hy2, hz, hz2⟩, h1, h2, h⟩
  show t__law_draw (bodyEX E) (bodyEnds Q) [some (.ref p), some (.int many), none, none, none, none] S
  have rest : ∀ o1 o2 o3 o4, t__law_draw_1 (bodyEX E) (bodyEnds Q) [some (.ref p), some (.int many), o1, o2, o3, o4] S := fun o1 o2 o3 o4 => draw_1 hp hx hy hy2 hz hz2 h1 h
  have l1 := lstAt_iff.mpr hp
  have l2 := rdAt_of l1
  unfold t__law_draw
  walk_at "dl"
  rw [l2]
  walk_at "dl"
  rw [l2]
  walk_at "dl"
  have hm : many ≠ 0 := by omega
  split
  · rename_i hx0
    have e := Int.fdiv_eq_ediv_of_nonneg x (show 0 ≤ many by omega)
    refine ⟨hm, ?_⟩
    rw [l2]
    walk_at "dl"
    refine ⟨hm, ?_⟩
    rw [l1]
    exact ⟨_, Sub.refl _, h _ _ (Int.fmod_nonneg_of_pos x (by omega)) (Int.fmod_lt_of_pos x (by omega)) But.sup ⟨_, y, z, sup_same, by rw [e]; exact Int.ediv_nonneg hx (by omega), hy, hy2, hz, hz2⟩⟩
  · exact rest _ _ _ _
end DL
end L2

/-! NRM: lowest form, the plain law; how the law's drawing is bounded. -/
namespace L2
namespace DL
open PySem PySem.Spec PyProof PyProof.Rows
theorem fdiv_mul {k g : Int} (h : g ≠ 0) : (k * g).fdiv g = k := Int.mul_fdiv_cancel k h
theorem nrm_spec (a : Int) {b : Int} (h : b ≠ 0) : ∃ p q g : Int, nrm a b = (p, q) ∧ a = p * g ∧ b = q * g ∧ g ≠ 0 ∧ 0 < q ∧ gcdI p q = 1 := by
  have hg := gcdI_pos (a := a) h
  have d1 : gcdI a b ∣ a := Int.gcd_dvd_left a b
  have d2 : gcdI a b ∣ b := Int.gcd_dvd_right a b
  obtain ⟨p, hp⟩ := d1
  obtain ⟨q, hq⟩ := d2
  have hgcd : gcdI p q = 1 := by
    have e : (Int.gcd a b : Int) = gcdI a b * gcdI p q := by
      have h1 : Int.gcd (gcdI a b * p) (gcdI a b * q) = (gcdI a b).natAbs * Int.gcd p q := Int.gcd_mul_left _ _ _
      rw [← hp, ← hq] at h1
      rw [h1]
      unfold gcdI
      push_cast
      simp
    have e2 : gcdI a b * gcdI p q = gcdI a b * 1 := by rw [← e, Int.mul_one]; rfl
    exact Int.eq_of_mul_eq_mul_left (by omega) e2
  generalize hG : gcdI a b = g at *
  by_cases hb : b < 0
  · refine ⟨-p, -q, -g, ?_, by rw [Int.neg_mul_neg, Int.mul_comm]; exact hp, by rw [Int.neg_mul_neg, Int.mul_comm]; exact hq, by omega, ?_, ?_⟩
    · unfold nrm
      rw [if_pos hb, hG]
      have e1 : a = -p * -g := by rw [Int.neg_mul_neg, Int.mul_comm]; exact hp
      have e2 : b = -q * -g := by rw [Int.neg_mul_neg, Int.mul_comm]; exact hq
      rw [Prod.mk.injEq]
      exact ⟨by conv => lhs; rw [e1]
                exact fdiv_mul (by omega), by conv => lhs; rw [e2]
                                              exact fdiv_mul (by omega)⟩
    · by_cases hq0 : 0 ≤ q
      · have := Int.mul_nonneg (Int.le_of_lt hg) hq0
        omega
      · omega
    · unfold gcdI at hgcd ⊢
      rw [Int.neg_gcd, Int.gcd_neg]
      exact hgcd
  · refine ⟨p, q, g, ?_, by rw [Int.mul_comm]; exact hp, by rw [Int.mul_comm]; exact hq, by omega, ?_, hgcd⟩
    · unfold nrm
      rw [if_neg hb, hG]
      have e1 : a = p * g := by rw [Int.mul_comm]; exact hp
      have e2 : b = q * g := by rw [Int.mul_comm]; exact hq
      rw [Prod.mk.injEq]
      exact ⟨by conv => lhs; rw [e1]
                exact fdiv_mul (by omega), by conv => lhs; rw [e2]
                                              exact fdiv_mul (by omega)⟩
    · by_cases hq0 : 0 < q
      · exact hq0
      · have := Int.mul_nonneg (Int.le_of_lt hg) (show 0 ≤ -q by omega)
        rw [Int.mul_neg, ← hq] at this
        omega
theorem nrm_pos {a b : Int} (h : b ≠ 0) : 0 < (nrm a b).2 := by
  obtain ⟨p, q, g, e, _, _, _, h1, _⟩ := nrm_spec a h
  rw [e]; exact h1
theorem nrm_gcd {a b : Int} (h : b ≠ 0) : gcdI (nrm a b).1 (nrm a b).2 = 1 := by
  obtain ⟨p, q, g, e, _, _, _, _, h1⟩ := nrm_spec a h
  rw [e]; exact h1
theorem natAbs_le_mul {p g : Int} (h : g ≠ 0) : p.natAbs ≤ (p * g).natAbs := by
  rw [Int.natAbs_mul]
  exact Nat.le_mul_of_pos_right _ (by omega)
theorem nrm_le {a b : Int} (h : b ≠ 0) : (nrm a b).1.natAbs ≤ a.natAbs ∧ (nrm a b).2.natAbs ≤ b.natAbs := by
  obtain ⟨p, q, g, e, h1, h2, hg, _, _⟩ := nrm_spec a h
  rw [e, h1, h2]
  exact ⟨natAbs_le_mul hg, natAbs_le_mul hg⟩
theorem nrm_cross {a b : Int} (h : b ≠ 0) : (nrm a b).1 * b = a * (nrm a b).2 := by
  obtain ⟨p, q, g, e, h1, h2, hg, _, _⟩ := nrm_spec a h
  rw [e]
  show p * b = a * q
  rw [h1, h2]
  rw [Int.mul_assoc, Int.mul_comm g q]
/-- a pair in lowest form -/
structure Low (a b : Int) : Prop where
  pos : 0 < b
  gcd : gcdI a b = 1
theorem nrm_low (a : Int) {b : Int} (h : b ≠ 0) : Low (nrm a b).1 (nrm a b).2 := ⟨nrm_pos h, nrm_gcd h⟩
theorem nrm_of_low {a b : Int} (h : Low a b) : nrm a b = (a, b) := by
  have h1 := h.pos
  unfold nrm
  rw [if_neg (by omega), h.gcd]
  simp
theorem dvd_of_gcd1 {k m n : Int} (h : k ∣ m * n) (g : Int.gcd k m = 1) : k ∣ n := by
  have h' : k.natAbs ∣ m.natAbs * n.natAbs := by rw [← Int.natAbs_mul]; exact Int.natAbs_dvd_natAbs.mpr h
  exact Int.natAbs_dvd_natAbs.mp (Nat.Coprime.dvd_of_dvd_mul_left g h')
/-- lowest forms with equal crossings are the same -/
theorem low_eq {a b c d : Int} (h1 : Low a b) (h2 : Low c d) (h : a * d = c * b) : a = c ∧ b = d := by
  have p1 := h1.pos
  have p2 := h2.pos
  have g1 : Int.gcd b a = 1 := by have := h1.gcd; unfold gcdI at this; rw [Int.gcd_comm]; omega
  have g2 : Int.gcd d c = 1 := by have := h2.gcd; unfold gcdI at this; rw [Int.gcd_comm]; omega
  have e1 : b ∣ d := by
    have : b ∣ a * d := ⟨c, by rw [h, Int.mul_comm]⟩
    exact dvd_of_gcd1 this g1
  have e2 : d ∣ b := by
    have : d ∣ c * b := ⟨a, by rw [← h, Int.mul_comm]⟩
    exact dvd_of_gcd1 this g2
  have e : b = d := Int.dvd_antisymm (by omega) (by omega) e1 e2
  subst e
  exact ⟨Int.eq_of_mul_eq_mul_right (by omega) h, rfl⟩
theorem nrm_eq {a b c d : Int} (hb : b ≠ 0) (hd : d ≠ 0) (h : a * d = c * b) : nrm a b = nrm c d := by
  have x1 := nrm_cross (a := a) hb
  have x2 := nrm_cross (a := c) hd
  have key : (nrm a b).1 * (nrm c d).2 = (nrm c d).1 * (nrm a b).2 := by
    apply Int.eq_of_mul_eq_mul_right hb
    apply Int.eq_of_mul_eq_mul_right hd
    calc (nrm a b).1 * (nrm c d).2 * b * d = ((nrm a b).1 * b) * (nrm c d).2 * d := by simp only [Int.mul_assoc, Int.mul_comm, Int.mul_left_comm]
      _ = a * (nrm a b).2 * (nrm c d).2 * d := by rw [x1]
      _ = (a * d) * (nrm c d).2 * (nrm a b).2 := by simp only [Int.mul_assoc, Int.mul_comm, Int.mul_left_comm]
      _ = (c * (nrm c d).2) * b * (nrm a b).2 := by rw [h]; simp only [Int.mul_assoc, Int.mul_comm, Int.mul_left_comm]
      _ = (nrm c d).1 * d * b * (nrm a b).2 := by rw [x2]
      _ = (nrm c d).1 * (nrm a b).2 * b * d := by simp only [Int.mul_assoc, Int.mul_comm, Int.mul_left_comm]
  obtain ⟨e1, e2⟩ := low_eq (nrm_low a hb) (nrm_low c hd) key
  exact Prod.ext e1 e2
/-- the law's own look finds a number right -/
theorem right_ok {c d : Int} (h : d ≠ 0) : (decide (0 < (nrm c d).2) && decide (gcdI (nrm c d).1 (nrm c d).2 = 1) && decide (((nrm c d).1, (nrm c d).2) = nrm c d)) = true := by
  rw [decide_eq_true (nrm_pos h), decide_eq_true (nrm_gcd h), decide_eq_true (show ((nrm c d).1, (nrm c d).2) = nrm c d from rfl)]
  rfl
theorem right_ok2 {c d : Int} (h : d ≠ 0) : (decide (0 < (nrm c d).2) && decide (gcdI (nrm c d).1 (nrm c d).2 = 1) && decide True) = true := by
  rw [decide_eq_true (nrm_pos h), decide_eq_true (nrm_gcd h), decide_eq_true trivial]
  rfl
/-- a drawn number's bound -/
theorem drawn_bd {n most : Int} {m : Nat} (h : -most ≤ n ∧ n ≤ most ∨ -9 ≤ n ∧ n ≤ 9) (hm : most < 2 ^ m) (h4 : 4 ≤ m) : n.natAbs < 2 ^ m := by
  have e : (16 : Nat) ≤ 2 ^ m := Nat.pow_le_pow_right (n := 2) (by decide) h4
  have e2 : ((2 ^ m : Nat) : Int) = (2 : Int) ^ m := by push_cast; rfl
  rw [← e2] at hm
  omega
theorem Purse.other {S : Sto} {p q : Addr} {o : MO} (h : Purse S p) (hpq : p ≠ q) : Purse (sup S q o) p := by
  obtain ⟨x, y, z, e, r⟩ := h
  exact ⟨x, y, z, by rw [sup_ne hpq]; exact e, r⟩
end DL
end L2

/-! EN: enumerate and reversed over tuples; list(range(..)). -/
namespace L2
namespace EnT
open PySem PySem.Spec PyProof PyProof.Rows

/-- making enumerate(v), v told by what its iterator is -/
theorem made {v : Value} {o : Obj} {P : Heap → Prop} (B : Begins v o P) :
    Meets (Builtin.«enumerate.__new__» ⟨[.type "enumerate", v], []⟩) (fun _ R s => P s.heap ∧
      R (.ok (.ret (.ref (s.heap.push o).objs.size))) { s with heap := (s.heap.push o).push { cls := .type "enumerate", data := .fields #[.none, .bool false, .ref s.heap.objs.size, rawInt 0, .none, .none] } }) := by
  refine .of_wp fun prog w A R s h => ?_
  obtain ⟨H, g, d, tk, os⟩ := s
  obtain ⟨st, r⟩ := h
  have sube := sub_enumerate
  have start : ∀ {A' : Around} {E : Value → Shared → Prop} {Q : Value → Shared → Prop}, Q (.ref H.objs.size) ⟨H.push o, g, d, tk, os⟩ → wpAny (model prog w) A' (pyIter v) Q E ⟨H, g, d, tk, os⟩ :=
    fun q => B.iter prog w _ _ ⟨H, g, d, tk, os⟩ _ st q
  wp_walk using start
  refine wpAny_stack_any fun _ => ?_
  refine wpAny_pure ?_
  split
  next c _ _ _ _ _ => cases (c == Value.type "enumerate") <;> (wp_walk using start; exact ⟨_, rfl, r⟩)
  next => wp_walk using start; exact ⟨_, rfl, r⟩

section
variable {prog : Program} {w : World} {A : Around} {E : Value → Shared → Prop} {s : Shared}
theorem called {v : Value} {o : Obj} {P : Heap → Prop} {Q : Value → Shared → Prop} (B : Begins v o P) (st : P s.heap)
    (q : ∀ h', IsEnum h' (s.heap.objs.size + 1) s.heap.objs.size 0 .none → h'.get? s.heap.objs.size = some o → (∀ b u, s.heap.get? b = some u → h'.get? b = some u) → Q (.ref (s.heap.objs.size + 1)) { s with heap := h' }) :
    wpAny (model prog w) A (call (.type "enumerate") [v]) Q E s := by
  refine callType_new F.called_enumerate (by decide) (F.typeCall_enumerate_1 _) (F.newCall_enumerate_1 _) (fun obj => F.args_object_init_2 obj _) F.entry_enumerate_new (made B) ⟨st, ?_⟩
  have hz : (s.heap.push o).objs.size = s.heap.objs.size + 1 := Heap.size_push ..
  show _ ∧ _
  rw [hz]
  have he : IsEnum ((s.heap.push o).push { cls := .type "enumerate", data := .fields #[.none, .bool false, .ref s.heap.objs.size, rawInt 0, .none, .none] }) (s.heap.objs.size + 1) s.heap.objs.size 0 .none := by
    have z := Heap.get?_push_size (s.heap.push o) (o := { cls := .type "enumerate", data := .fields #[.none, .bool false, .ref s.heap.objs.size, rawInt 0, .none, .none] }) rfl
    rwa [hz] at z
  exact ⟨⟨_, he, rfl⟩, q _ he (Heap.get?_push_of_some _ (Heap.get?_push_size _ B.free)) fun b u x => Heap.get?_push_of_some _ (Heap.get?_push_of_some _ x)⟩
end

/-- the tuple at a, each item in a new pair with its place -/
def Itn (K : PySem.W.Frag) (a : Addr) : It :=
  ⟨fun i H => ∃ (xs : List V) (x : V), SqT K H a xs ∧ xs[i]? = some x, fun i H v H' => ∃ T x, v = .ref T ∧ H T = none ∧ H' = upd H T (.tup [.int (i : Nat), x]) ∧ ∀ xs, SqT K H a xs → xs[i]? = some x, fun i H => ∃ xs : List V, SqT K H a xs ∧ xs.length = i⟩
theorem turns {P : Program} {w : World} {K : PySem.W.Frag} {elts : List Expr} {kk : Nat} {tpos : Pos} (a e it : Addr) :
    Turn P w K (.Tuple elts kk tpos) (Itn K a) [e, it] e (fun i h => (∃ old, IsEnum h e it ((i : Nat) : Int) old) ∧ h.IsTupleIter it a i ∧ e ≠ it ∧ e ≠ a ∧ a ≠ it) where
  mem := List.mem_cons_self
  obj := by
    rintro i h ⟨⟨old, he⟩, ⟨o, ho, hc, hd⟩, _⟩ b hb
    rcases List.mem_cons.mp hb with z | z
    · subst z
      exact ⟨_, he, fun v q => nomatch q⟩
    · obtain rfl := List.mem_singleton.mp z
      exact ⟨o, ho, fun v q => by rw [hd] at q; cases q⟩
  keep := by
    rintro i h h' ⟨⟨old, he⟩, hi, r⟩ k
    exact ⟨⟨old, k e (by simp) _ he⟩, hi.at fun o q => k it (by simp) o q, r⟩
  item := by
    rintro X rfl rfl rfl hc i pins s σ H E I hf ⟨⟨old, he⟩, hit, hne, hea, hai⟩ ⟨xs, x, hq, hx⟩
    obtain ⟨its, rv, p, hz⟩ := I.tuple hq
    obtain ⟨u, hu, ru⟩ := rv.get hx
    have hel : e < s.heap.objs.size := Heap.lt_size he
    have hil : it < s.heap.objs.size := by obtain ⟨_, q, _⟩ := hit; exact Heap.lt_size q
    have hlt : i < its.toArray.size := by
      have := (List.getElem?_eq_some_iff.mp hu).1
      simpa using this
    have Dr := Draws.tuple (prog := X.prog) (w := X.w) (A := X.A.in1) (show X.A.in1.handled = none from I.ok.hd hc) it a hai its.toArray
    refine wpAny_pyNext_enum_itemD Dr he ⟨hit, p⟩ hlt hne (by simp [hne, hea]) fun y h' tk hy ho hst hT hsz hk => ?_
    have ey : y = u := by
      have h1 : its.toArray[i]? = some u := by simpa using hu
      rw [h1] at hy
      exact (Option.some.inj hy).symm
    subst ey
    refine ⟨_, rfl, wpAny_letOwnedTupleGo_enum (s := { s with heap := h', toks := tk + 1 }) ho fun h2 he' sb => ?_⟩
    have hT2 : h2.get? s.heap.objs.size = some { cls := .type "tuple", data := .seq #[.int i tk, y] } := (sb.2 _ (Nat.ne_of_gt hel)).trans hT
    have new : ObjOk X.prog X.w (upd H s.heap.objs.size (.tup [.int (i : Nat), x])) h2 s.heap.objs.size (.tup [.int (i : Nat), x]) :=
      ⟨show 2 ≤ sizeLine by decide, [.int i tk, y], .cons ⟨_, rfl⟩ (.cons ru .nil), ⟨_, hT2, rfl, _, rfl⟩⟩
    have I1 : Inv X pins σ (upd H s.heap.objs.size (.tup [.int (i : Nat), x])) { s with heap := h2, toks := tk + 1 } :=
      I.turnedNew (ch := [e, it]) (fun b ob hb q => (sb.2 b (fun z => hb (by simp [z]))).trans (hk b ob (fun z => hb (by simp [z])) (fun z => hb (by simp [z])) q)) hf (Nat.le_refl _) new
    refine ⟨.ref s.heap.objs.size, _, I1, rfl, ⟨_, x, rfl, I.hok.fresh (Nat.le_refl _), rfl, fun ys hy => by rw [I.tuple_inj hy hq]; exact hx⟩, ⟨⟨y, ?_⟩, hst.1.at fun o q => (sb.2 it (Ne.symm hne)).trans q, hne, hea, hai⟩, fun b hb => ?_⟩
    · have e1 : ((i + 1 : Nat) : Int) = (i : Int) + 1 := by omega
      rw [e1]; exact he'
    · have hlb : b < s.heap.objs.size := by
        rcases List.mem_cons.mp hb with z | z
        · rw [z]; exact hel
        · rw [List.mem_singleton.mp z]; exact hil
      rw [upd_ne (Nat.ne_of_lt hlb)]
      exact (hf b hb).1
  done := by
    rintro X rfl rfl rfl hc i pins s σ H E I hf ⟨⟨old, he⟩, hit, hne, hea, hai⟩ ⟨xs, hq, hx⟩
    obtain ⟨its, rv, p, hz⟩ := I.tuple hq
    obtain ⟨f0, f1, f2, f3, f4, f5⟩ := hf it (by simp)
    have hl := rv.length
    have Dr := Draws.tuple (prog := X.prog) (w := X.w) (A := X.A.in1) (show X.A.in1.handled = none from I.ok.hd hc) it a hai its.toArray
    have hi : i = its.toArray.size := by simp; omega
    exact wpAny_pyNext_enum_endD Dr he ⟨hi ▸ hit, p⟩ fun h' eb => ⟨rfl, I.turned (t' := s.toks) (fun b o hb e => eb b o hb e) f0 f1 f3 f4 f5⟩
  self := fun A i s Q E st h => by
    obtain ⟨⟨_, he⟩, _⟩ := st
    exact wpAny_pyIter_enum he h
/-- enumerate(x), x a tuple -/
def iEnT (K : PySem.W.Frag) (te : TE) : TI := fun σ H R => te σ H fun v H1 => ∃ (a : Addr) (xs : List V), v = .ref a ∧ SqT K H1 a xs ∧ R (Itn K a) H1
theorem walks {X : Cx} {e : Expr} {te : TE} {p pos tpos : Pos} {elts : List Expr} {kk : Nat} (hg : Gl X "enumerate") (hm : X.mg "enumerate" = none) (he : PE X e te) (hs : starEach [e] X.env = (false, eval e X.env) :: starEach [] X.env := by rfl) :
    PI X (.Tuple elts kk tpos) (.Call (.Name "enumerate" p) [e] [] pos) (iEnT X.K te) := by
  refine ⟨fun pins s σ H R I h => ?_⟩
  refine Call_ (ld_blt I hg hm boot_enumerate (PyProof.Rows.callWith_type1 (args_cons (thn (he.run pins s σ H _ I h) fun u s1 ⟨v, H1, I1, r1, a, xs, ev, hq, q⟩ => args_nil ?_) hs) hs rfl))
  subst ev
  obtain rfl : u = Value.ref a := r1
  obtain ⟨its, rv, tp, hz⟩ := I1.tuple hq
  have hlt : a < s1.heap.objs.size := IsTup.lt tp
  refine called (begins_tuple a its.toArray) tp fun h' en hit hk => wpAny_pyIter_enum en ?_
  have I2 : Inv X pins σ H1 { s1 with heap := h' } := I1.kept (t' := s1.toks) hk
  refine ⟨s1.heap.objs.size + 1, [s1.heap.objs.size + 1, s1.heap.objs.size], _, Itn X.K a, H1, rfl, I2, turns a _ s1.heap.objs.size, ⟨⟨.none, en⟩, ⟨_, hit, rfl, rfl⟩, Nat.succ_ne_self _, fun z => ?_, Nat.ne_of_lt hlt⟩, fun b hb => ?_, q⟩
  · exact Nat.ne_of_gt (Nat.lt_succ_of_lt hlt) z
  · have hle : s1.heap.objs.size ≤ b := by
      rcases List.mem_cons.mp hb with z | z
      · rw [z]; exact Nat.le_succ _
      · rw [List.mem_singleton.mp z]; exact Nat.le_refl _
    exact I1.fpOk hle (I1.hok.fresh hle)
end EnT
namespace DL
open PySem PySem.Spec PyProof PyProof.Rows
section
variable {K : PySem.W.Frag} {H0 : Hp} {a : Addr} {ds : List D} {xs : List V}
/-- the places and the items -/
def enumD (ds : List D) : List D := (List.range ds.length).map fun i => .tup [.int (i : Nat), ds.getD i .non]
theorem dwalk_enT (h : SqT K H0 a xs) (r : Reps K H0 ds xs) : DWalk K H0 (EnT.Itn K a) (fun _ => True) (enumD ds) := by
  have hl : (enumD ds).length = ds.length := by simp [enumD]
  refine ⟨fun H => SqT K H a xs, fun i H v H' => ∃ T x, v = .ref T ∧ H T = none ∧ H' = upd H T (.tup [.int (i : Nat), x]) ∧ xs[i]? = some x, ⟨?_, ?_, ?_⟩, fun S H _ k _ => k.sqT h, ?_⟩
  · intro i H hi q
    rw [hl] at hi
    have : i < xs.length := by rw [r.len]; exact hi
    exact ⟨xs, xs[i], q, by simp [this]⟩
  · intro H q
    exact ⟨xs, q, by rw [hl, r.len]⟩
  · rintro i H v H' hi q ⟨T, x, h1, h2, h3, h4⟩
    exact ⟨T, x, h1, h2, h3, h4 xs q⟩
  · rintro i S H v H' hi ⟨T, x, rfl, hn, rfl, hx⟩ rs k _
    obtain ⟨d, e1, r1⟩ := r.get' hx
    have hk := Kept.new (H := H) (p := T) (o := .tup [.int (i : Nat), x]) hn
    refine ⟨.tup [.int (i : Nat), d], ?_, .tup (SqT.of upd_same) (.cons (.int _) (.cons ((r1.mono k).mono hk) .nil)), rs.newT hn, hk⟩
    rw [hl] at hi
    unfold enumD
    rw [List.getElem?_map, List.getElem?_range hi]
    simp [List.getD, e1]
end
def iEnumTup (a : DE) : DI := fun EX δ S R => a EX δ S fun x S1 => match x with
  | .tup ds => R (fun _ => True) (enumD ds) S1
  | _ => False
def iRevTup (a : DE) : DI := fun EX δ S R => a EX δ S fun x S1 => match x with
  | .tup ds => R (fun _ => True) ds.reverse S1
  | _ => False
section
variable {X : Cx} {tg e : Expr} {te : DE} {p pos tpos : Pos} {elts : List Expr} {kk : Nat}
theorem ii_enumTup (hm : X.mg "enumerate" = none) (h : IsE X e te) (hg : Gl X "enumerate" := by rfl) (hs : starEach [e] X.env = (false, eval e X.env) :: starEach [] X.env := by rfl) :
    IsI X (.Tuple elts kk tpos) (.Call (.Name "enumerate" p) [e] [] pos) (iEnumTup te) := fun EX W tk =>
  pi_imp (EnT.walks hg hm (h EX W tk) hs) fun σ H R ⟨δ, S, Qd, rl, rs, h, q⟩ => ⟨δ, S, _, rl, rs, h, fun x S1 v H1 h1 rv rs1 k1 => by
    cases rv with
    | tup sq rr => exact ⟨_, _, rfl, sq, q _ _ S1 _ H1 h1 (dwalk_enT sq rr) rs1 k1⟩
    | _ => exact (show False from h1).elim⟩
theorem dwalk_revT {K : PySem.W.Frag} {H0 : Hp} {a : Addr} {ds : List D} {xs : List V} (h : SqT K H0 a xs) (r : Reps K H0 ds xs) : DWalk K H0 (RT.ItvT K a xs.length) (fun _ => True) ds.reverse := by
  have hl : ds.reverse.length = xs.length := by rw [List.length_reverse, r.len]
  refine ⟨fun H => SqT K H a xs, fun i H v H' => H' = H ∧ xs[xs.length - 1 - i]? = some v, ⟨?_, ?_, ?_⟩, fun S H _ k _ => k.sqT h, ?_⟩
  · intro i H hi q
    rw [hl] at hi
    exact ⟨hi, xs, xs[xs.length - 1 - i]'(by omega), q, by simp [show xs.length - 1 - i < xs.length by omega]⟩
  · intro H q
    show xs.length ≤ ds.reverse.length
    omega
  · rintro i H v H' hi q ⟨h1, h2⟩
    exact ⟨h1, h2 xs q⟩
  · rintro i S H v H' hi ⟨rfl, hx⟩ rs k _
    obtain ⟨d, e1, r1⟩ := r.get' hx
    refine ⟨d, ?_, r1.mono k, rs, Kept.refl _⟩
    rw [List.length_reverse] at hi
    rw [List.getElem?_reverse hi, ← r.len]
    exact e1
theorem ii_revTup (hm : X.mg "reversed" = none) (h : IsE X e te) (hg : Gl X "reversed" := by rfl) (hs : starEach [e] X.env = (false, eval e X.env) :: starEach [] X.env := by rfl) :
    IsI X tg (.Call (.Name "reversed" p) [e] [] pos) (iRevTup te) := fun EX W tk =>
  pi_imp (RT.pi_revA hg hm (h EX W tk) hs) fun σ H R ⟨δ, S, Qd, rl, rs, h, q⟩ => ⟨δ, S, _, rl, rs, h, fun x S1 v H1 h1 rv rs1 k1 => by
    cases rv with
    | tup sq rr => exact ⟨_, _, rfl, .inr ⟨sq, q _ _ S1 _ H1 h1 (dwalk_revT sq rr) rs1 k1⟩⟩
    | _ => exact (show False from h1).elim⟩
end

/-! ### x, y, z = a, b, c -/
def sPar3 (i j l : Nat) (a : DA) : DS := fun EX T δ S => a EX δ S fun vs S1 => match vs with
  | [u, v, w] => T.nx (((δ.set i (some u)).set j (some v)).set l (some w)) S1
  | _ => False
theorem is_par3 (i j l : Nat) {X : Cx} {x y z : Str} {a b c : Expr} {ta : DA} {px py pz pt pos : Pos} {kt k2 : Nat} {pt2 : Pos} (hc : X.calm = true) (hN : X.N.Nodup) (ha : IsA X [a, b, c] ta)
    (hi : X.N[i]? = some x := by rfl) (hj : X.N[j]? = some y := by rfl) (hl : X.N[l]? = some z := by rfl) (hij : i ≠ j := by decide) (hil : i ≠ l := by decide) (hjl : j ≠ l := by decide)
    (hx : X.env.scope.names.lookup x = some .local := by rfl) (hy : X.env.scope.names.lookup y = some .local := by rfl) (hz : X.env.scope.names.lookup z = some .local := by rfl)
    (hw : swappedStores [.Tuple [.Name x px, .Name y py, .Name z pz] kt pt] (.Tuple [a, b, c] k2 pt2) X.env = pure (some [x, y, z]) := by rfl)
    (hs : swapsWithSole [.Tuple [.Name x px, .Name y py, .Name z pz] kt pt] (.Tuple [a, b, c] k2 pt2) pos.line X.env = pure false := by rfl) :
    IsS X (.Assign [.Tuple [.Name x px, .Name y py, .Name z pz] kt pt] (.Tuple [a, b, c] k2 pt2) pos) (sPar3 i j l ta) := fun EX W tk =>
  ps_imp (ps_par3 hc hN hi hj hl hij hil hjl hx hy hz (ha EX W tk) hw hs) fun T σ H ⟨δ, S, Dd, rl, rs, h, U⟩ =>
    ⟨δ, S, _, rl, rs, h, fun ds S1 vs H1 h1 rv rs1 k1 => by
      split at h1
      · cases rv with
        | cons r1 rv =>
          cases rv with
          | cons r2 rv =>
            cases rv with
            | cons r3 rv =>
              cases rv
              exact ⟨_, _, _, rfl, U.nx _ S1 _ H1 h1 ((((rl.mono k1).set r1 i).set r2 j).set r3 l) rs1 k1⟩
      · exact h1.elim⟩

/-! ### list(range(..)) -/
theorem reps_rg {K : PySem.W.Frag} {H : Hp} (i j : Int) : Reps K H (irng i (j - i).toNat) (rgV i j) := by
  have g : ∀ l : List Nat, Reps K H (l.map fun (k : Nat) => D.int (i + (k : Int))) (l.map fun (k : Nat) => V.int (i + (k : Int))) := fun l => by
    induction l with
    | nil => exact .nil
    | cons a l ih => exact .cons (.int _) ih
  exact g _
def eLstRg1 (te : DE) : DE := fun EX δ S Q => te EX δ S fun x S1 => match x with
  | .int n => RgOk 0 n ∧ ∀ q, S1 q = none → Q (.ref q) (sup S1 q (.lst (irng 0 (n - 0).toNat)))
  | _ => False
theorem ie_lstRg1 {X : Cx} {e : Expr} {te : DE} {p p2 pos pos2 : Pos} (hc : X.calm = true) (hm : X.mg "list" = none) (hr : X.mg "range" = none) (h : IsE X e te) (hg : Gl X "list" := by rfl) (hg2 : Gl X "range" := by rfl)
    (na : starEach [e] X.env = (false, eval e X.env) :: starEach [] X.env := by rfl)
    (nb : starEach [.Call (.Name "range" p2) [e] [] pos2] X.env = (false, eval (.Call (.Name "range" p2) [e] [] pos2) X.env) :: starEach [] X.env := by rfl) :
    IsE X (.Call (.Name "list" p) [.Call (.Name "range" p2) [e] [] pos2] [] pos) (eLstRg1 te) := fun EX W tk =>
  pe_imp (pe_listRg hc hg hm (prg_1 hg2 hr (h EX W tk) na) nb) fun σ H Q ⟨δ, S, Qd, rl, rs, h, q⟩ => ⟨δ, S, _, rl, rs, h, fun x S1 v H1 h1 rv rs1 k1 => by
    cases rv with
    | int n => exact ⟨n, rfl, h1.1, fun c hn => q _ _ _ _ (h1.2 c (rs1.fresh hn)) (.ref c) (rs1.newL hn (reps_rg 0 n)) (k1.trans (Kept.new hn))⟩
    | _ => exact (show False from h1).elim⟩
end DL
end L2

/-! LP: loops and comprehensions by invariants; tuples of whole numbers. -/
namespace L2
namespace DL
open PySem PySem.Spec PyProof PyProof.Rows
/-- a tuple of whole numbers -/
abbrev PT (ns : List Int) : D := .tup (ns.map D.int)
theorem toPys_ints : ∀ ns : List Int, toPys (ns.map D.int) = some (ns.map PyData.int)
  | [] => rfl
  | n :: ns => by
    show (match toPy (.int n), toPys (ns.map D.int) with
      | some a, some as => some (a :: as)
      | _, _ => none) = _
    rw [toPys_ints ns]
    rfl
theorem canLay_ints : ∀ ns : List Int, PyData.canLayAll0 (ns.map PyData.int) = true
  | [] => rfl
  | n :: ns => by
    show (PyData.canLay0 (.int n) && PyData.canLayAll0 (ns.map PyData.int)) = true
    rw [canLay_ints ns]
    rfl
theorem depth_ints : ∀ ns : List Int, PyData.depthAll (ns.map PyData.int) = 0
  | [] => rfl
  | n :: ns => by
    show max (PyData.depth (.int n)) (PyData.depthAll (ns.map PyData.int)) = 0
    rw [depth_ints ns]
    rfl
theorem shaped_ints (ns : List Int) : SeqAt.shaped (.tuple (ns.map PyData.int)) = true := by
  unfold SeqAt.shaped
  have h1 : PyData.canLay0 (.tuple (ns.map PyData.int)) = true := canLay_ints ns
  have h2 : PyData.depth (.tuple (ns.map PyData.int)) = 1 := by
    show PyData.depthAll (ns.map PyData.int) + 1 = 1
    rw [depth_ints]
  rw [h1, h2]
  rfl
theorem eqvAll_ints : ∀ a b : List Int, PyData.eqvAll (a.map PyData.int) (b.map PyData.int) = decide (a = b)
  | [], [] => rfl
  | [], _ :: _ => rfl
  | _ :: _, [] => rfl
  | x :: xs, y :: ys => by
    show (PyData.eqv (.int x) (.int y) && PyData.eqvAll (xs.map PyData.int) (ys.map PyData.int)) = _
    rw [eqvAll_ints xs ys]
    show ((x == y) && decide (xs = ys)) = _
    rw [Bool.eq_iff_iff]
    simp
theorem toPy_pt (ns : List Int) : toPy (PT ns) = some (.tuple (ns.map PyData.int)) := by
  show (toPys (ns.map D.int)).map PyData.tuple = _
  rw [toPys_ints]
  rfl
section
variable {S : Sto} {Q : DK} {a b : List Int}
theorem oEq_pp : oEq (PT a) (PT b) S Q = Q (.bl (decide (a = b))) S := by
  have e : PyData.eqv (.tuple (a.map PyData.int)) (.tuple (b.map PyData.int)) = decide (a = b) := eqvAll_ints a b
  apply propext
  constructor
  · rintro ⟨x, y, e1, e2, _, _, h⟩
    rw [toPy_pt] at e1 e2
    cases e1
    cases e2
    rw [e] at h
    exact h
  · intro h
    exact ⟨_, _, toPy_pt a, toPy_pt b, shaped_ints a, shaped_ints b, by rw [e]; exact h⟩
theorem oNe_pp : oNe (PT a) (PT b) S Q = Q (.bl (!decide (a = b))) S := by
  have e : PyData.eqv (.tuple (a.map PyData.int)) (.tuple (b.map PyData.int)) = decide (a = b) := eqvAll_ints a b
  apply propext
  constructor
  · rintro ⟨x, y, e1, e2, _, _, h⟩
    rw [toPy_pt] at e1 e2
    cases e1
    cases e2
    rw [e] at h
    exact h
  · intro h
    exact ⟨_, _, toPy_pt a, toPy_pt b, shaped_ints a, shaped_ints b, by rw [e]; exact h⟩
theorem oEq_p0 : oEq (PT a) (.tup []) S Q = Q (.bl (decide (a = []))) S := oEq_pp (b := [])
theorem oNe_p0 : oNe (PT a) (.tup []) S Q = Q (.bl (!decide (a = []))) S := oNe_pp (b := [])
end
theorem ix_lastI {ns : List Int} (h : ns ≠ []) : ix (ns.map D.int) (-1) = some (.int (ns.getLastD 1)) := by
  have e := List.dropLast_concat_getLast h
  rw [← e, List.map_append]
  rw [show List.map D.int [ns.getLast h] = [D.int (ns.getLast h)] from rfl, ix_last, e]
  congr 2
  cases ns with
  | nil => exact absurd rfl h
  | cons x xs => rfl

/-! ### comprehensions -/
/-- items without effect: a map -/
theorem lc_map {G : Sto → Prop} {i : Nat} {te : DE} {δ : DSt} {p : Addr} {S0 : Sto} {f : D → D} {Q : Sto → Prop} : ∀ (ds acc : List D), (∀ acc', G (sup S0 p (.lst acc'))) → acc.length + ds.length ≤ 100000 →
    (∀ d ∈ ds, ∀ acc' (Q' : DK), Q' (f d) (sup S0 p (.lst acc')) → te EX0 (δ.set i (some d)) (sup S0 p (.lst acc')) Q') → Q (sup S0 p (.lst (acc ++ ds.map f))) → lcIn G (dName i) tYesD te δ p ds (sup S0 p (.lst acc)) Q
  | [], acc, hG, hz, _, h => ⟨hG acc, by rwa [List.map_nil, List.append_nil] at h⟩
  | d :: ds, acc, hG, hz, step, h => by
    refine ⟨hG acc, ?_⟩
    show (if true = true then te EX0 (δ.set i (some d)) (sup S0 p (.lst acc)) (fun v S4 => ∃ acc, S4 p = some (.lst acc) ∧ acc.length < sizeLine ∧ lcIn G (dName i) tYesD te δ p ds (sup S4 p (.lst (acc ++ [v]))) Q) else lcIn G (dName i) tYesD te δ p ds (sup S0 p (.lst acc)) Q)
    rw [if_pos rfl]
    refine step d List.mem_cons_self acc _ ⟨acc, sup_same, ?_, ?_⟩
    · rw [List.length_cons] at hz
      exact size_lt (by omega)
    · rw [sup_sup]
      refine lc_map ds (acc ++ [f d]) hG ?_ (fun e he => step e (List.mem_cons_of_mem _ he)) ?_
      · rw [List.length_append, List.length_singleton]
        rw [List.length_cons] at hz
        omega
      · rw [List.append_assoc]
        exact h
/-- any items: by an invariant of what stands -/
theorem lc_inv {G : Sto → Prop} {i : Nat} {te : DE} {δ : DSt} {p : Addr} {Q : Sto → Prop} (M : List D → Sto → Prop) (hG : ∀ acc S, S p = some (.lst acc) → M acc S → G S) : ∀ (ds acc : List D) (S : Sto), acc.length + ds.length ≤ 100000 → S p = some (.lst acc) → M acc S →
    (∀ d ∈ ds, ∀ acc S (Q' : DK), S p = some (.lst acc) → M acc S → (∀ v S', S' p = some (.lst acc) → M (acc ++ [v]) (sup S' p (.lst (acc ++ [v]))) → Q' v S') → te EX0 (δ.set i (some d)) S Q') →
    (∀ acc' S, acc'.length = acc.length + ds.length → S p = some (.lst acc') → M acc' S → Q S) → lcIn G (dName i) tYesD te δ p ds S Q
  | [], acc, S, hz, hp, m, step, fin => ⟨hG acc S hp m, fin acc S rfl hp m⟩
  | d :: ds, acc, S, hz, hp, m, step, fin => by
    refine ⟨hG acc S hp m, ?_⟩
    show (if true = true then te EX0 (δ.set i (some d)) S (fun v S4 => ∃ acc, S4 p = some (.lst acc) ∧ acc.length < sizeLine ∧ lcIn G (dName i) tYesD te δ p ds (sup S4 p (.lst (acc ++ [v]))) Q) else lcIn G (dName i) tYesD te δ p ds S Q)
    rw [if_pos rfl]
    refine step d List.mem_cons_self acc S _ hp m fun v S' e m' => ⟨acc, e, ?_, ?_⟩
    · rw [List.length_cons] at hz
      exact size_lt (by omega)
    · refine lc_inv M hG ds (acc ++ [v]) _ ?_ sup_same m' (fun e he => step e (List.mem_cons_of_mem _ he)) fun acc' S2 hl => fin acc' S2 ?_
      · rw [List.length_append, List.length_singleton]
        rw [List.length_cons] at hz
        omega
      · rw [List.length_append, List.length_singleton] at hl
        rw [List.length_cons, hl]
        omega

/-! ### for -/
theorem for_inv {G : Sto → Prop} {g : DG} {b : DS} {EX : EXK} {T : DEnds} (M : List D → DSt → Sto → Prop) (hG : ∀ ds δ S, M ds δ S → G S)
    (step : ∀ d ds δ S (T' : DEnds), M (d :: ds) δ S → (∀ δ' S', M ds δ' S' → T'.nx δ' S') → (∀ δ' S', M ds δ' S' → T'.ct δ' S') → T'.rt = T.rt → T'.bk = T.nx → g d EX δ S (fun δ1 S1 => b EX T' δ1 S1))
    (fin : ∀ δ S, M [] δ S → T.nx δ S) : ∀ ds δ S, M ds δ S → sForIn G g b ds EX T δ S
  | [], δ, S, m => ⟨hG _ _ _ m, fin δ S m⟩
  | d :: ds, δ, S, m => ⟨hG _ _ _ m, step d ds δ S _ m (fun δ' S' m' => for_inv M hG step fin ds δ' S' m') (fun δ' S' m' => for_inv M hG step fin ds δ' S' m') rfl rfl⟩
/-- back to what stood before but p -/
theorem settle {S S' : Sto} {p : Addr} (hp : Purse S' p) (hb : ∀ b o, b ≠ p → S b = some o → S' b = some o) : ∃ S0, Sub S0 S' ∧ But p S S0 ∧ Purse S0 p := by
  obtain ⟨x, y, z, e, r⟩ := hp
  refine ⟨sup S p (.lst [.int x, .int y, .int z]), fun b o h => ?_, But.sup, ⟨x, y, z, sup_same, r⟩⟩
  by_cases hbp : b = p
  · subst hbp
    rw [sup_same] at h
    rw [e]
    exact h
  · rw [sup_ne hbp] at h
    exact hb b o hbp h
end DL
end L2

/-! PL: polynomials as lists of whole numbers, plain Lean. -/
namespace L2
namespace DL
open PySem PySem.Spec PyProof PyProof.Rows
/-! ### figures, trimmed lists -/
def co (a : List Int) (k : Nat) : Int := a.getD k 0
def Trim (a : List Int) : Prop := a.getLastD 1 ≠ 0
instance {a : List Int} : Decidable (Trim a) := by unfold Trim; infer_instance
def cutI : List Int → List Int
  | [] => []
  | x :: xs => match cutI xs with
    | [] => if x = 0 then [] else [x]
    | y :: ys => x :: y :: ys
theorem co_nil (k : Nat) : co [] k = 0 := by simp [co]
theorem co_zero (x : Int) (xs : List Int) : co (x :: xs) 0 = x := rfl
theorem co_succ (x : Int) (xs : List Int) (k : Nat) : co (x :: xs) (k + 1) = co xs k := by simp [co]
theorem co_ge {a : List Int} {k : Nat} (h : a.length ≤ k) : co a k = 0 := by
  simp [co, List.getD, List.getElem?_eq_none h]
theorem trim_nil : Trim [] := by unfold Trim; decide
theorem trim_one {x : Int} : Trim [x] ↔ x ≠ 0 := Iff.rfl
theorem trim_cons2 {x y : Int} {ys : List Int} : Trim (x :: y :: ys) ↔ Trim (y :: ys) := Iff.rfl
theorem cutI_trim : ∀ a : List Int, Trim (cutI a)
  | [] => trim_nil
  | x :: xs => by
    have ih := cutI_trim xs
    unfold cutI
    split
    · split
      · exact trim_nil
      · exact trim_one.mpr ‹_›
    · rename_i y ys e
      rw [e] at ih
      exact trim_cons2.mpr ih
theorem co_cutI : ∀ (a : List Int) (k : Nat), co (cutI a) k = co a k
  | [], k => rfl
  | x :: xs, k => by
    have ih := co_cutI xs
    unfold cutI
    split
    · rename_i e
      rw [e] at ih
      split
      · rename_i hx
        cases k with
        | zero => rw [co_zero, hx]; rfl
        | succ k => rw [co_succ, ← ih]; simp [co]
      · cases k with
        | zero => rfl
        | succ k => rw [co_succ, co_succ, ← ih]
    · rename_i y ys e
      rw [e] at ih
      cases k with
      | zero => rfl
      | succ k => rw [co_succ, co_succ, ← ih]
theorem co_last {a : List Int} (h : a ≠ []) : co a (a.length - 1) = a.getLastD 1 := by
  induction a with
  | nil => exact absurd rfl h
  | cons x xs ih =>
    cases xs with
    | nil => rfl
    | cons y ys =>
      have := ih (by simp)
      rw [show (x :: y :: ys).length - 1 = ((y :: ys).length - 1) + 1 by simp, co_succ, this]
      rfl
/-- two trimmed lists with the same figures are one -/
theorem trim_ext {a b : List Int} (ha : Trim a) (hb : Trim b) (h : ∀ k, co a k = co b k) : a = b := by
  have len : ∀ {a b : List Int}, Trim a → (∀ k, co a k = co b k) → a.length ≤ b.length := by
    intro a b ha h
    by_cases ea : a = []
    · rw [ea]; exact Nat.zero_le _
    · by_cases hl : a.length ≤ b.length
      · exact hl
      · have h1 := co_last ea
        rw [h, co_ge (by omega)] at h1
        exact absurd h1.symm ha
  have l : a.length = b.length := Nat.le_antisymm (len ha h) (len hb fun k => (h k).symm)
  apply List.ext_getElem l
  intro k h1 h2
  have e := h k
  simp only [co, List.getD, List.getElem?_eq_getElem h1, List.getElem?_eq_getElem h2, Option.getD_some] at e
  exact e
theorem cutI_of_trim {a : List Int} (h : Trim a) : cutI a = a := trim_ext (cutI_trim a) h (co_cutI a)
theorem cutI_congr {a b : List Int} (h : ∀ k, co a k = co b k) : cutI a = cutI b := trim_ext (cutI_trim a) (cutI_trim b) fun k => by rw [co_cutI, co_cutI, h]
theorem cutI_len : ∀ a : List Int, (cutI a).length ≤ a.length
  | [] => Nat.le_refl _
  | x :: xs => by
    have ih := cutI_len xs
    unfold cutI
    split
    · split
      · exact Nat.zero_le _
      · simp
    · rename_i y ys e
      rw [e] at ih
      simp only [List.length_cons] at ih ⊢
      omega
theorem cutI_mem : ∀ (a : List Int) {x : Int}, x ∈ cutI a → x ∈ a
  | [], _, h => h
  | x :: xs, z, h => by
    have ih := fun {z} => cutI_mem xs (x := z)
    unfold cutI at h
    split at h
    · split at h
      · cases h
      · rw [List.mem_singleton.mp h]; exact List.mem_cons_self
    · rename_i y ys e
      rcases List.mem_cons.mp h with h | h
      · rw [h]; exact List.mem_cons_self
      · exact List.mem_cons_of_mem _ (ih (by rw [e]; exact h))
theorem co_take {a : List Int} {m k : Nat} : co (a.take m) k = if k < m then co a k else 0 := by
  unfold co List.getD
  rw [List.getElem?_take]
  split
  · rfl
  · rfl
theorem cut_take {a : List Int} {m : Nat} (hm : m ≤ a.length) (h0 : ∀ j, m ≤ j → co a j = 0) (h1 : m = 0 ∨ co a (m - 1) ≠ 0) : a.take m = cutI a := by
  refine trim_ext ?_ (cutI_trim a) fun k => ?_
  · by_cases e : a.take m = []
    · rw [e]; exact trim_nil
    · unfold Trim
      rw [← co_last e, List.length_take, Nat.min_eq_left hm]
      have hm0 : m ≠ 0 := by rintro rfl; exact e (by simp)
      rw [co_take, if_pos (by omega)]
      exact h1.resolve_left hm0
  · rw [co_take, co_cutI]
    split
    · rfl
    · exact (h0 k (by omega)).symm
/-! ### by figures -/
def lin (f : Nat → Int) (n : Nat) : List Int := (List.range n).map f
theorem co_lin {f : Nat → Int} {n k : Nat} : co (lin f n) k = if k < n then f k else 0 := by
  unfold co lin List.getD
  rw [List.getElem?_map]
  split
  · rename_i h
    rw [List.getElem?_range h]
    rfl
  · rename_i h
    rw [List.getElem?_eq_none (by simpa using h)]
    rfl
def addL : List Int → List Int → List Int
  | [], b => b
  | a, [] => a
  | x :: xs, y :: ys => (x + y) :: addL xs ys
theorem addL_nil (a : List Int) : addL a [] = a := by cases a <;> rfl
theorem co_addL : ∀ (a b : List Int) (k : Nat), co (addL a b) k = co a k + co b k
  | [], b, k => by rw [co_nil]; show co b k = _; omega
  | x :: xs, [], k => by rw [co_nil]; show co (x :: xs) k = _; omega
  | x :: xs, y :: ys, 0 => rfl
  | x :: xs, y :: ys, k + 1 => by
    show co ((x + y) :: addL xs ys) (k + 1) = _
    rw [co_succ, co_succ, co_succ, co_addL xs ys k]
theorem co_map {f : Int → Int} (h : f 0 = 0) (a : List Int) (k : Nat) : co (a.map f) k = f (co a k) := by
  unfold co List.getD
  rw [List.getElem?_map]
  cases a[k]? with
  | none => exact h.symm
  | some x => rfl
theorem addL_len : ∀ a b : List Int, (addL a b).length = max a.length b.length
  | [], b => by show b.length = _; simp
  | x :: xs, [] => by show (x :: xs).length = _; simp
  | x :: xs, y :: ys => by
    show (addL xs ys).length + 1 = _
    rw [addL_len xs ys]
    simp only [List.length_cons]
    omega
/-! ### worths -/
def ev : List Int → Int → Int
  | [], _ => 0
  | x :: xs, t => x + t * ev xs t
theorem ev_of_zero : ∀ (a : List Int) (t : Int), (∀ k, co a k = 0) → ev a t = 0
  | [], _, _ => rfl
  | x :: xs, t, h => by
    show x + t * ev xs t = 0
    rw [ev_of_zero xs t (fun k => by rw [← co_succ x]; exact h (k + 1)), show x = 0 from h 0]
    omega
theorem ev_addL : ∀ (a b : List Int) (t : Int), ev (addL a b) t = ev a t + ev b t
  | [], b, t => by show ev b t = 0 + _; omega
  | x :: xs, [], t => by show ev (x :: xs) t = _ + 0; omega
  | x :: xs, y :: ys, t => by
    show (x + y) + t * ev (addL xs ys) t = (x + t * ev xs t) + (y + t * ev ys t)
    rw [ev_addL xs ys t, Int.mul_add]
    omega
theorem ev_scale (c : Int) : ∀ (a : List Int) (t : Int), ev (a.map (fun x => c * x)) t = c * ev a t
  | [], t => by show (0 : Int) = c * 0; rw [Int.mul_zero]
  | x :: xs, t => by
    show c * x + t * ev (xs.map _) t = c * (x + t * ev xs t)
    rw [ev_scale c xs t]
    grind
theorem ev_congr {a b : List Int} (h : ∀ k, co a k = co b k) (t : Int) : ev a t = ev b t := by
  have e : ev (addL a (b.map fun x => -1 * x)) t = 0 := ev_of_zero _ t fun k => by
    rw [co_addL, co_map (by decide), h]
    omega
  rw [ev_addL, ev_scale] at e
  omega
theorem ev_cutI (a : List Int) (t : Int) : ev (cutI a) t = ev a t := ev_congr (co_cutI a) t
/-- no worth far out: no figure -/
theorem zero_of_ev : ∀ (a : List Int) (n : Int), (∀ t, n ≤ t → ev a t = 0) → ∀ k, co a k = 0
  | [], _, _, k => co_nil k
  | x :: xs, n, h, k => by
    have hx : x = 0 := by
      have h1 := h (max n (x.natAbs + 1)) (by omega)
      have h2 : x = -(max n ((x.natAbs : Int) + 1) * ev xs (max n (x.natAbs + 1))) := by
        have : x + max n ((x.natAbs : Int) + 1) * ev xs (max n (x.natAbs + 1)) = 0 := h1
        omega
      have h3 : max n ((x.natAbs : Int) + 1) ∣ x := ⟨-ev xs (max n (x.natAbs + 1)), by rw [Int.mul_neg]; exact h2⟩
      refine Int.eq_zero_of_dvd_of_natAbs_lt_natAbs h3 ?_
      omega
    cases k with
    | zero => rw [co_zero]; exact hx
    | succ k =>
      rw [co_succ]
      refine zero_of_ev xs (max n 1) (fun t ht => ?_) k
      have h1 : x + t * ev xs t = 0 := h t (by omega)
      rw [hx, Int.zero_add] at h1
      rcases Int.mul_eq_zero.mp h1 with e | e
      · omega
      · exact e
theorem co_of_ev {a b : List Int} (h : ∀ t, ev a t = ev b t) (k : Nat) : co a k = co b k := by
  have e := zero_of_ev (addL a (b.map fun x => -1 * x)) 0 (fun t _ => by rw [ev_addL, ev_scale, h]; omega) k
  rw [co_addL, co_map (by decide)] at e
  omega
theorem ev_ext {a b : List Int} (ha : Trim a) (hb : Trim b) (h : ∀ t, ev a t = ev b t) : a = b := trim_ext ha hb (co_of_ev h)
theorem cutI_ev {a b : List Int} (h : ∀ t, ev a t = ev b t) : cutI a = cutI b := cutI_congr (co_of_ev h)
/-! ### products -/
def mulL : List Int → List Int → List Int
  | [], _ => []
  | x :: xs, b => addL (b.map fun y => x * y) (0 :: mulL xs b)
theorem ev_mulL : ∀ (a b : List Int) (t : Int), ev (mulL a b) t = ev a t * ev b t
  | [], b, t => by show (0 : Int) = 0 * _; rw [Int.zero_mul]
  | x :: xs, b, t => by
    show ev (addL (b.map fun y => x * y) (0 :: mulL xs b)) t = (x + t * ev xs t) * ev b t
    rw [ev_addL, ev_scale]
    show x * ev b t + (0 + t * ev (mulL xs b) t) = _
    rw [ev_mulL xs b t]
    grind
theorem mulL_top : ∀ (a b : List Int), a ≠ [] → b ≠ [] → co (mulL a b) (a.length + b.length - 2) = a.getLastD 1 * b.getLastD 1
  | [], _, h, _ => absurd rfl h
  | [x], b, _, hb => by
    have hl := List.length_pos_iff.mpr hb
    show co (addL (b.map fun y => x * y) (0 :: [])) ([x].length + b.length - 2) = x * b.getLastD 1
    rw [co_addL, co_map (Int.mul_zero x), ← co_last hb, show [x].length + b.length - 2 = b.length - 1 by simp; omega]
    have e : ∀ k, co [0] k = 0 := fun k => by cases k <;> simp [co]
    rw [e]
    omega
  | x :: y :: ys, b, _, hb => by
    have hl := List.length_pos_iff.mpr hb
    have ih := mulL_top (y :: ys) b (by simp) hb
    show co (addL (b.map fun z => x * z) (0 :: mulL (y :: ys) b)) _ = (y :: ys).getLastD 1 * b.getLastD 1
    rw [co_addL, co_map (Int.mul_zero x), co_ge (a := b) (by simp only [List.length_cons]; omega),
      show (x :: y :: ys).length + b.length - 2 = ((y :: ys).length + b.length - 2) + 1 by simp only [List.length_cons]; omega, co_succ, ih]
    omega
theorem mulL_len_le : ∀ (a b : List Int), (mulL a b).length ≤ a.length + b.length
  | [], b => Nat.zero_le _
  | x :: xs, b => by
    have ih := mulL_len_le xs b
    show (addL _ (0 :: mulL xs b)).length ≤ _
    rw [addL_len, List.length_map]
    simp only [List.length_cons]
    omega
def pmul (a b : List Int) : List Int := cutI (mulL a b)
theorem ev_pmul (a b : List Int) (t : Int) : ev (pmul a b) t = ev a t * ev b t := by unfold pmul; rw [ev_cutI, ev_mulL]
theorem pmul_trim (a b : List Int) : Trim (pmul a b) := cutI_trim _
theorem mulL_bound : ∀ (a b : List Int) (k : Nat), a.length + b.length - 1 ≤ k → co (mulL a b) k = 0
  | [], b, k, _ => co_nil k
  | x :: xs, b, k, h => by
    show co (addL (b.map fun z => x * z) (0 :: mulL xs b)) k = 0
    simp only [List.length_cons] at h
    rw [co_addL, co_map (Int.mul_zero x), co_ge (a := b) (by omega)]
    cases k with
    | zero => rw [co_zero]; omega
    | succ k =>
      rw [co_succ]
      by_cases hx : xs = []
      · subst hx
        rw [show mulL [] b = [] from rfl, co_nil]
        omega
      · have := List.length_pos_iff.mpr hx
        rw [mulL_bound xs b k (by omega)]
        omega
theorem len_of_co {a : List Int} {n : Nat} (ha : Trim a) (h0 : ∀ k, n ≤ k → co a k = 0) : a.length ≤ n := by
  by_cases e : a = []
  · rw [e]; exact Nat.zero_le _
  · by_cases h : a.length ≤ n
    · exact h
    · have h1 := co_last e
      rw [h0 _ (by omega)] at h1
      exact absurd h1.symm ha
theorem co_lt_len {a : List Int} {k : Nat} (h : co a k ≠ 0) : k < a.length := by
  by_cases e : k < a.length
  · exact e
  · exact absurd (co_ge (by omega)) h
theorem pmul_len {a b : List Int} (ha : Trim a) (hb : Trim b) (h1 : a ≠ []) (h2 : b ≠ []) : (pmul a b).length = a.length + b.length - 1 := by
  have l1 := List.length_pos_iff.mpr h1
  have l2 := List.length_pos_iff.mpr h2
  apply Nat.le_antisymm
  · exact len_of_co (pmul_trim a b) fun k hk => by unfold pmul; rw [co_cutI]; exact mulL_bound a b k hk
  · have h : co (pmul a b) (a.length + b.length - 2) ≠ 0 := by
      unfold pmul
      rw [co_cutI, mulL_top a b h1 h2]
      exact Int.mul_ne_zero ha hb
    have := co_lt_len h
    omega
end DL
end L2

/-! PLc: greatest common divisors of figures; plain forms. -/
namespace L2
namespace DL
open PySem PySem.Spec PyProof PyProof.Rows
theorem gcdI_dvd_left (a b : Int) : gcdI a b ∣ a := Int.gcd_dvd_left a b
theorem gcdI_dvd_right (a b : Int) : gcdI a b ∣ b := Int.gcd_dvd_right a b
theorem dvd_gcdI {k a b : Int} (h1 : k ∣ a) (h2 : k ∣ b) : k ∣ gcdI a b := Int.dvd_coe_gcd h1 h2
def contI (g : Int) (a : List Int) : Int := a.foldl gcdI g
theorem contI_dvd : ∀ (a : List Int) (g : Int), contI g a ∣ g ∧ ∀ x ∈ a, contI g a ∣ x
  | [], g => ⟨Int.dvd_refl g, fun _ h => nomatch h⟩
  | y :: ys, g => by
    obtain ⟨h1, h2⟩ := contI_dvd ys (gcdI g y)
    refine ⟨Int.dvd_trans h1 (gcdI_dvd_left g y), fun x hx => ?_⟩
    rcases List.mem_cons.mp hx with e | hx
    · rw [e]; exact Int.dvd_trans h1 (gcdI_dvd_right g y)
    · exact h2 x hx
theorem dvd_contI {k : Int} : ∀ (a : List Int) (g : Int), k ∣ g → (∀ x ∈ a, k ∣ x) → k ∣ contI g a
  | [], g, h, _ => h
  | y :: ys, g, h, hx => dvd_contI ys (gcdI g y) (dvd_gcdI h (hx y List.mem_cons_self)) fun x h => hx x (List.mem_cons_of_mem _ h)
theorem contI_nonneg : ∀ (a : List Int) (g : Int), 0 ≤ g → 0 ≤ contI g a
  | [], g, h => h
  | y :: ys, g, h => contI_nonneg ys _ (gcdI_nonneg g y)
theorem mem_of_co {a : List Int} {k : Nat} (h : co a k ≠ 0) : co a k ∈ a := by
  have hl := co_lt_len h
  unfold co List.getD
  rw [List.getElem?_eq_getElem hl]
  exact List.getElem_mem hl
theorem last_mem {a : List Int} (h : a ≠ []) : a.getLastD 1 ∈ a := by
  rw [← co_last h]
  unfold co List.getD
  have hl : a.length - 1 < a.length := by have := List.length_pos_iff.mpr h; omega
  rw [List.getElem?_eq_getElem hl]
  exact List.getElem_mem hl
theorem contI_pos {a : List Int} (ht : Trim a) (h : a ≠ []) : 0 < contI 0 a := by
  have h1 := contI_nonneg a 0 (Int.le_refl 0)
  have h2 := (contI_dvd a 0).2 _ (last_mem h)
  by_cases e : contI 0 a = 0
  · rw [e] at h2
    exact absurd (Int.zero_dvd.mp h2) ht
  · omega
/-- what the plain form is divided by -/
def signI (a : List Int) : Int := if 0 < a.getLastD 1 then contI 0 a else -contI 0 a
def partI (a : List Int) (w : Int) : List Int := a.map fun x => x.fdiv w
def plainI (a : List Int) : List Int := if a = [] then [] else partI a (signI a)
theorem signI_ne {a : List Int} (ht : Trim a) (h : a ≠ []) : signI a ≠ 0 := by
  have := contI_pos ht h
  unfold signI
  split <;> omega
theorem signI_dvd (a : List Int) : ∀ x ∈ a, signI a ∣ x := fun x hx => by
  have := (contI_dvd a 0).2 x hx
  unfold signI
  split
  · exact this
  · exact Int.neg_dvd.mpr this
theorem fdiv_exact {x w : Int} (hw : w ≠ 0) (h : w ∣ x) : x.fdiv w * w = x := by
  obtain ⟨k, rfl⟩ := h
  rw [Int.mul_comm w k, Int.mul_fdiv_cancel _ hw]
theorem partI_mul {a : List Int} {w : Int} (hw : w ≠ 0) (h : ∀ x ∈ a, w ∣ x) : (partI a w).map (fun x => w * x) = a := by
  unfold partI
  rw [List.map_map]
  conv => rhs; rw [← List.map_id a]
  apply List.map_congr_left
  intro x hx
  show w * x.fdiv w = x
  rw [Int.mul_comm]
  exact fdiv_exact hw (h x hx)
theorem ev_partI {a : List Int} {w : Int} (hw : w ≠ 0) (h : ∀ x ∈ a, w ∣ x) (t : Int) : w * ev (partI a w) t = ev a t := by
  rw [← ev_scale, partI_mul hw h]
theorem partI_len (a : List Int) (w : Int) : (partI a w).length = a.length := List.length_map _
theorem partI_nil {a : List Int} {w : Int} : partI a w = [] ↔ a = [] := List.map_eq_nil_iff
theorem co_partI (a : List Int) (w : Int) (k : Nat) : co (partI a w) k = (co a k).fdiv w := co_map (f := fun x => x.fdiv w) (by simp) a k
theorem last_partI {a : List Int} {w : Int} (h : a ≠ []) : (partI a w).getLastD 1 = (a.getLastD 1).fdiv w := by
  rw [← co_last (mt partI_nil.mp h), ← co_last h, partI_len, co_partI]
theorem partI_trim {a : List Int} {w : Int} (ht : Trim a) (hw : w ≠ 0) (h : ∀ x ∈ a, w ∣ x) : Trim (partI a w) := by
  by_cases e : a = []
  · rw [e]; exact trim_nil
  · unfold Trim
    rw [last_partI e]
    intro z
    have := fdiv_exact hw (h _ (last_mem e))
    rw [z, Int.zero_mul] at this
    exact ht this.symm
/-- plain: trimmed, the last above 0, the figures without a common divisor -/
structure Plain (a : List Int) : Prop where
  trim : Trim a
  pos : a ≠ [] → 0 < a.getLastD 1
  one : a ≠ [] → contI 0 a = 1
theorem plain_nil : Plain [] := ⟨trim_nil, fun h => absurd rfl h, fun h => absurd rfl h⟩
theorem pos_of_mul {x s : Int} (h : 0 < x * s) (hs : 0 < s) : 0 < x := by
  by_cases hx : 0 < x
  · exact hx
  · have := Int.mul_nonneg (show 0 ≤ -x by omega) (Int.le_of_lt hs)
    rw [Int.neg_mul] at this
    omega
theorem plainI_plain {a : List Int} (ht : Trim a) : Plain (plainI a) := by
  unfold plainI
  split
  · exact plain_nil
  · rename_i h
    have hs := signI_ne ht h
    have hd := signI_dvd a
    have hc := contI_pos ht h
    refine ⟨partI_trim ht hs hd, fun _ => ?_, fun _ => ?_⟩
    · rw [last_partI h]
      have e := fdiv_exact hs (hd _ (last_mem h))
      have hl : a.getLastD 1 ≠ 0 := ht
      unfold signI at e ⊢
      split
      · rename_i hp
        rw [if_pos hp] at e
        exact pos_of_mul (by rw [e]; exact hp) hc
      · rename_i hp
        rw [if_neg hp] at e
        have : 0 < (a.getLastD 1).fdiv (-contI 0 a) * contI 0 a := by
          have e2 : (a.getLastD 1).fdiv (-contI 0 a) * contI 0 a = -(a.getLastD 1) := by
            rw [← e]
            grind
          omega
        exact pos_of_mul this hc
    · have n0 := contI_nonneg (partI a (signI a)) 0 (Int.le_refl 0)
      have h1 := (contI_dvd (partI a (signI a)) 0).2
      have h2 : contI 0 (partI a (signI a)) * signI a ∣ contI 0 a := by
        refine dvd_contI a 0 (Int.dvd_zero _) fun x hx => ?_
        obtain ⟨q, hq⟩ := h1 (x.fdiv (signI a)) (List.mem_map.mpr ⟨x, hx, rfl⟩)
        refine ⟨q, ?_⟩
        have e := fdiv_exact hs (hd x hx)
        rw [hq] at e
        rw [← e]
        grind
      have h3 : contI 0 (partI a (signI a)) * contI 0 a ∣ contI 0 a := by
        unfold signI at h2 ⊢
        split
        · rename_i hp
          rw [if_pos hp] at h2
          exact h2
        · rename_i hp
          rw [if_neg hp, Int.mul_neg] at h2
          exact Int.neg_dvd.mp h2
      obtain ⟨q, hq⟩ := h3
      have h4 : contI 0 (partI a (signI a)) * q = 1 := by
        apply Int.eq_of_mul_eq_mul_right (show contI 0 a ≠ 0 by omega)
        rw [Int.one_mul]
        conv => rhs; rw [hq]
        grind
      have h5 : contI 0 (partI a (signI a)) ∣ 1 := ⟨q, h4.symm⟩
      exact Int.eq_one_of_dvd_one n0 h5
theorem plainI_of_plain {a : List Int} (h : Plain a) : plainI a = a := by
  unfold plainI
  split
  · rename_i e; exact e.symm
  · rename_i e
    unfold signI
    rw [if_pos (h.pos e), h.one e]
    unfold partI
    conv => rhs; rw [← List.map_id a]
    apply List.map_congr_left
    intro x _
    simp
theorem plainI_len (a : List Int) : (plainI a).length = a.length := by
  unfold plainI
  split
  · rename_i e; rw [e]
  · exact partI_len _ _
theorem plainI_nil {a : List Int} : plainI a = [] ↔ a = [] := by
  rw [← List.length_eq_zero_iff, plainI_len, List.length_eq_zero_iff]
theorem ev_plainI {a : List Int} (ht : Trim a) (h : a ≠ []) (t : Int) : signI a * ev (plainI a) t = ev a t := by
  unfold plainI
  rw [if_neg h]
  exact ev_partI (signI_ne ht h) (signI_dvd a) t
end DL
end L2

/-! SPb: what the defs on polynomials promise. -/
namespace L2
namespace DL
open PySem PySem.Spec PyProof PyProof.Rows
theorem ints_inj : ∀ {a b : List Int}, a.map D.int = b.map D.int → a = b
  | [], [], _ => rfl
  | [], _ :: _, h => nomatch h
  | _ :: _, [], h => nomatch h
  | x :: xs, y :: ys, h => by
    rw [List.map_cons, List.map_cons, List.cons.injEq] at h
    rw [ints_inj h.2]
    cases h.1
    rfl
theorem pt_inj {a b : List Int} (h : PT a = PT b) : a = b := ints_inj (by injection h)
/-- items of a tuple of whole numbers, each without effect -/
theorem lc_ints {G : Sto → Prop} {i : Nat} {te : DE} {δ : DSt} {p : Addr} {S0 : Sto} {f : Int → Int} {Q : Sto → Prop} : ∀ (a acc : List Int), (∀ acc', G (sup S0 p (.lst acc'))) → acc.length + a.length ≤ 100000 →
    (∀ x ∈ a, ∀ acc' (Q' : DK), Q' (.int (f x)) (sup S0 p (.lst acc')) → te EX0 (δ.set i (some (.int x))) (sup S0 p (.lst acc')) Q') → Q (sup S0 p (.lst ((acc ++ a.map f).map D.int))) → lcIn G (dName i) tYesD te δ p (a.map D.int) (sup S0 p (.lst (acc.map D.int))) Q := by
  intro a acc hG hz step h
  refine lc_map (f := fun d => match d with | .int x => .int (f x) | d => d) (a.map D.int) (acc.map D.int) hG (by simpa using hz) (fun d hd acc' Q' q => ?_) ?_
  · obtain ⟨x, hx, rfl⟩ := List.mem_map.mp hd
    exact step x hx acc' Q' q
  · rw [List.map_map]
    rw [List.map_append, List.map_map] at h
    exact h
/-- whole numbers in a tuple or a list -/
def SeqOf (S : Sto) (d : D) (a : List Int) : Prop := d = PT a ∨ ∃ p, d = .ref p ∧ rdAt S p = some (a.map D.int)
def sp_content : DSp := fun ds S Q _ => ∃ a, ds = [PT a] ∧ Q (.int (contI 0 a)) S
def sp_parted : DSp := fun ds S Q _ => ∃ a w, ds = [PT a, .int w] ∧ w ≠ 0 ∧ a.length ≤ 10000 ∧ Q (PT (partI a w)) S
def sp_plain : DSp := fun ds S Q _ => ∃ a, ds = [PT a] ∧ Trim a ∧ a.length ≤ 10000 ∧ Q (PT (plainI a)) S
def sp_cut : DSp := fun ds S Q _ => ∃ d a, ds = [d] ∧ SeqOf S d a ∧ Q (PT (cutI a)) S
def sp_isPoly : DSp := fun ds S Q _ => ∃ a, ds = [PT a] ∧ a.length ≤ 10000 ∧ Q (.bl (decide (Trim a))) S
def sp_many : DSp := fun ds S Q _ => ∃ ns m, ds = [.ltv (List.map D.int ns), .int m] ∧ ns.length ≤ 63 ∧ 1 ≤ m ∧ m ≤ 1000 ∧ ∀ p (n : Nat), n ≤ 1000 → S p = none → Q (.ref p) (sup S p (.lst (irng 0 n)))
/-- drawn figures -/
def Drawn (signs : Int) (a : List Int) : Prop := ∀ x ∈ a, -signs ≤ x ∧ x ≤ signs ∨ -9 ≤ x ∧ x ≤ 9
def sp_lpoly : DSp := fun ds S Q _ => ∃ p most signs, ds = [.ref p, .int most, .int signs] ∧ Purse S p ∧ 0 ≤ most ∧ most ≤ 1000 ∧ 1 ≤ signs ∧ signs < 10 ^ 39 ∧
  ∀ a S', (a.length : Int) ≤ most → Trim a → Drawn signs a → But p S S' → Purse S' p → Q (PT a) S'
section
variable {S : Sto} {Q : DK} {E : Addr → Sto → Prop} {a : List Int} {w m most signs : Int} {p : Addr} {d : D}
theorem call_content : sp_content [PT a] S Q E = Q (.int (contI 0 a)) S :=
  propext ⟨fun ⟨b, e, h⟩ => by rw [List.cons.injEq] at e; rw [pt_inj e.1]; exact h, fun h => ⟨_, rfl, h⟩⟩
theorem call_parted : sp_parted [PT a, .int w] S Q E = (w ≠ 0 ∧ a.length ≤ 10000 ∧ Q (PT (partI a w)) S) :=
  propext ⟨fun ⟨b, v, e, h⟩ => by rw [List.cons.injEq, List.cons.injEq] at e; obtain ⟨e1, e2, _⟩ := e; rw [pt_inj e1]; cases e2; exact ⟨h.1, by rw [pt_inj e1] at *; exact h.2.1, h.2.2⟩, fun h => ⟨_, _, rfl, h⟩⟩
theorem call_plain : sp_plain [PT a] S Q E = (Trim a ∧ a.length ≤ 10000 ∧ Q (PT (plainI a)) S) :=
  propext ⟨fun ⟨b, e, h⟩ => by rw [List.cons.injEq] at e; rw [pt_inj e.1]; exact h, fun h => ⟨_, rfl, h⟩⟩
theorem call_isPoly : sp_isPoly [PT a] S Q E = (a.length ≤ 10000 ∧ Q (.bl (decide (Trim a))) S) :=
  propext ⟨fun ⟨b, e, h⟩ => by rw [List.cons.injEq] at e; rw [pt_inj e.1]; exact h, fun h => ⟨_, rfl, h⟩⟩
theorem call_lpoly : sp_lpoly [.ref p, .int most, .int signs] S Q E = (Purse S p ∧ 0 ≤ most ∧ most ≤ 1000 ∧ 1 ≤ signs ∧ signs < 10 ^ 39 ∧
    ∀ a S', (a.length : Int) ≤ most → Trim a → Drawn signs a → But p S S' → Purse S' p → Q (PT a) S') :=
  propext ⟨fun ⟨_, _, _, e, h⟩ => by cases e; exact h, fun h => ⟨_, _, _, rfl, h⟩⟩
theorem call_cutL (h : rdAt S p = some (a.map D.int)) (q : Q (PT (cutI a)) S) : sp_cut [.ref p] S Q E := ⟨_, a, rfl, .inr ⟨p, rfl, h⟩, q⟩
theorem call_cutT (q : Q (PT (cutI a)) S) : sp_cut [PT a] S Q E := ⟨_, a, rfl, .inl rfl, q⟩
end
end DL
end L2

namespace L2
namespace DL
open PySem PySem.Spec PyProof PyProof.Rows
local macro_rules | `(tactic| walk_at "dl") => `(tactic| simp only [sSeq, sSet, sIf, sRet, sPar, sNext, sDrop, sAsg, sRaise, eBin, eUn, eVar, eC, eB, eM, eM0, eTup, eLst, eCall, eAndV, eOrV, eNotV, eIf, aCons, aNil, tVal, tAndD, tOrD, tNotD, cBl, dName, dSub, dTup, dLst, dCons, dNil,
  onI_ii, onIC_ii, oAdd_ii, oAdd_tt, oIadd_ii, oMul_ii, oNeg_i, oEq_ii, oNe_ii, oIx_t, oIx_v, oIx_r, oLen_t, oLen_v, oLen_r, oAbs_i, o2I_ii, oInt_i, oInt_b, oTuple_t, oTuple_r, isi_int, isi_bool, isi_tup, oSet_r, oAppend_r, isL_r, iLstD_r, lstAt_sup, rdAt_sup, ix0, ix1, ix2, ix3, sFor, iRange1, iRange2,
  call_divisor, call_number, call_plus, call_minus, call_times, call_over, call_draw, call_whole, call_isWhole, call_isNumber, call_low, call_told, call_lover, call_right,
  call_content, call_parted, call_plain, call_isPoly, call_lpoly, oEq_pp, oNe_pp, oEq_p0, oNe_p0, iTupD, eLc, oMul_t, eSl, pNone, pSome, cSl, sAug, eLstRg1, tYesD, sPar3,
  bodyEnds, bodyEX, List.set_cons_zero, List.set_cons_succ, List.getElem?_cons_zero, List.getElem?_cons_succ, decide_eq_true_eq, Bool.not_eq_true', decide_eq_false_iff_not, List.nil_append, List.append_nil, List.cons_append, Bool.false_eq_true, if_false, if_true, true_and, and_true])
/-- content: 0 one, 1 found, 2 figure -/
def t_content : DS :=
  (sSeq (sSet 1 (eC (.int 0)))
  (sSeq (sFor (iTupD (eVar 0)) (dName 2) (sSet 1 (eCall sp_divisor [] (aCons (eVar 1) (aCons (eVar 2) aNil)))))
  (sRet (eVar 1))))
/-- parted: 0 one, 1 whole, 2 figure -/
def t_parted : DS :=
  (sRet (eB oTuple (aCons (eLc (iTupD (eVar 0)) (dName 2) tYesD (eBin oFdiv (eVar 2) (eVar 1)) [2]) aNil)))
/-- plain: 0 one, 1 part -/
def t_plain : DS :=
  (sSeq (sIf (tVal (eBin oEq (eVar 0) (eTup aNil))) (sRet (eTup aNil)) sNext)
  (sSeq (sSet 1 (eCall sp_content [] (aCons (eVar 0) aNil)))
  (sRet (eCall sp_parted [] (aCons (eVar 0) (aCons (eIf (tVal (eBin oGt (eBin oIx (eVar 0) (eUn oNeg (eC (.int 1)))) (eC (.int 0)))) (eVar 1) (eUn oNeg (eVar 1))) aNil))))))
/-- _law_poly: 0 _law_purse_here, 1 _law_most, 2 _law_signs, 3 _law_found, 4 _law_k -/
def t__law_poly : DS :=
  (sSeq (sSet 3 (eLc (iRange1 (aCons (eCall sp_draw [] (aCons (eVar 0) (aCons (eBin oAdd (eVar 1) (eC (.int 1))) aNil))) aNil)) (dName 4) tYesD (eCall sp_whole [] (aCons (eVar 0) (aCons (eVar 2) aNil))) [4]))
  (sRet (eCall sp_cut [] (aCons (eVar 3) aNil))))
/-- _law_cut: 0 _law_line, 1 _law_many_here -/
def t__law_cut : DS :=
  (sSeq (sSet 1 (eB oLen (aCons (eVar 0) aNil)))
  (sSeq (sWhile (tAndD (tVal (eBin oGt (eVar 1) (eC (.int 0)))) (tVal (eBin oEq (eBin oIx (eVar 0) (eBin oSub (eVar 1) (eC (.int 1)))) (eC (.int 0))))) (sAug 1 oSub (eC (.int 1))))
  (sRet (eB oTuple (aCons (eSl (eVar 0) pNone (pSome (eVar 1))) aNil)))))
def t__law_plain_3 : DS :=
  (sRet (eB oTuple (aCons (eLc (iTupD (eVar 0)) (dName 2) tYesD (eBin oFdiv (eVar 2) (eVar 1)) [2]) aNil)))
def t__law_plain_2 : DS :=
  (sSeq (sIf (tAndD (tVal (eBin oNe (eVar 0) (eTup aNil))) (tVal (eBin oLt (eBin oIx (eVar 0) (eUn oNeg (eC (.int 1)))) (eC (.int 0))))) (sSet 1 (eUn oNeg (eVar 1))) sNext)
  (t__law_plain_3))
/-- _law_plain: 0 _law_one, 1 _law_part, 2 _law_entry -/
def t__law_plain : DS :=
  (sSeq (sSet 1 (eC (.int 0)))
  (sSeq (sFor (iTupD (eVar 0)) (dName 2) (sSet 1 (eCall sp_divisor [] (aCons (eVar 1) (aCons (eVar 2) aNil)))))
  (t__law_plain_2)))
/-- _law_is_poly: 0 _law_found, 1 _law_entry -/
def t__law_is_poly : DS :=
  (sSeq (sIf (tOrD (tNotD (tVal (eB oIsi (aCons (eVar 0) (aCons (eC (.ty "tuple")) aNil))))) (tNotD (tVal (eB oAll (aCons (eLc (iTupD (eVar 0)) (dName 1) tYesD (eCall sp_isWhole [] (aCons (eVar 1) aNil)) [1]) aNil))))) (sRet (eC (.bl false))) sNext)
  (sRet (eOrV (eBin oEq (eVar 0) (eTup aNil)) (eBin oNe (eBin oIx (eVar 0) (eUn oNeg (eC (.int 1)))) (eC (.int 0))))))
/-- _law_many: 0 _law_script, 1 _law_most -/
def t__law_many : DS :=
  (sRet (eLstRg1 (eB oMax (aCons (eC (.int 1)) (aCons (eB oMin (aCons (eVar 1) (aCons (eB oLen (aCons (eVar 0) aNil)) aNil))) aNil)))))
theorem sem_content : ∀ ds S Q E, sp_content ds S Q E → t_content (bodyEX E) (bodyEnds Q) (dstart ["one", "found", "figure"] ds) S := by
  rintro ds S Q E ⟨a, rfl, h⟩
  show t_content (bodyEX E) (bodyEnds Q) [some (PT a), none, none] S
  unfold t_content
  walk_at "dl"
  refine for_inv (fun l δ S' => ∃ (r : List Int) (g : Int) (o : Option D), l = r.map D.int ∧ δ = [some (PT a), some (.int g), o] ∧ S' = S ∧ contI g r = contI 0 a) (fun _ _ _ _ => trivial) ?_ ?_ _ _ _ ⟨a, 0, none, rfl, rfl, rfl, rfl⟩
  · rintro d l δ S' T' ⟨r, g, o, e, rfl, rfl, hc⟩ nx ct rt bk
    cases r with
    | nil => cases e
    | cons x r =>
      rw [List.map_cons, List.cons.injEq] at e
      obtain ⟨rfl, rfl⟩ := e
      walk_at "dl"
      exact nx _ _ ⟨r, _, _, rfl, rfl, rfl, hc⟩
  · rintro δ S' ⟨r, g, o, e, rfl, rfl, hc⟩
    cases r with
    | cons x r => cases e
    | nil =>
      walk_at "dl"
      have hc' : g = contI 0 a := hc
      rw [hc']
      exact ⟨S', Sub.refl _, h⟩
theorem sem_parted : ∀ ds S Q E, sp_parted ds S Q E → t_parted (bodyEX E) (bodyEnds Q) (dstart ["one", "whole", "figure"] ds) S := by
  rintro ds S Q E ⟨a, w, rfl, hw, hl, h⟩
  show t_parted (bodyEX E) (bodyEnds Q) [some (PT a), some (.int w), none] S
  unfold t_parted
  walk_at "dl"
  intro p np
  refine lc_ints (f := fun x => x.fdiv w) a [] (fun _ => trivial) (by simp; omega) (fun x hx acc' Q' q => ?_) ?_
  · simp only [dwipe]
    walk_at "dl"
    exact ⟨hw, q⟩
  · rw [rdAt_sup]
    exact ⟨S, Sub.new np, h⟩
theorem sem_plain : ∀ ds S Q E, sp_plain ds S Q E → t_plain (bodyEX E) (bodyEnds Q) (dstart ["one", "part"] ds) S := by
  rintro ds S Q E ⟨a, rfl, ht, hl, h⟩
  show t_plain (bodyEX E) (bodyEnds Q) [some (PT a), none] S
  unfold t_plain
  walk_at "dl"
  refine ⟨sz0, ?_⟩
  by_cases e : a = []
  · subst e
    rw [if_pos rfl]
    exact ⟨sz0, S, Sub.refl S, h⟩
  · rw [if_neg e, ix_lastI e]
    have hs := signI_ne ht e
    have hp : plainI a = partI a (signI a) := if_neg e
    rw [hp] at h
    unfold signI at h hs
    walk_at "dl"
    by_cases c : 0 < a.getLastD 1
    · rw [if_pos c] at h hs ⊢
      exact ⟨hs, hl, S, Sub.refl S, h⟩
    · rw [if_neg c] at h hs ⊢
      exact ⟨hs, hl, S, Sub.refl S, h⟩
theorem lplain_3 {EX : EXK} {Q : DK} {S : Sto} {a : List Int} {w : Int} {o : Option D} (hl : a.length ≤ 10000) (hw : a ≠ [] → w ≠ 0) (hp : plainI a = partI a w) (h : Q (PT (plainI a)) S) :
    t__law_plain_3 EX (bodyEnds Q) [some (PT a), some (.int w), o] S := by
  unfold t__law_plain_3
  walk_at "dl"
  intro p np
  refine lc_ints (f := fun x => x.fdiv w) a [] (fun _ => trivial) (by simp; omega) (fun x hx acc' Q' q => ?_) ?_
  · simp only [dwipe]
    walk_at "dl"
    exact ⟨hw (List.ne_nil_of_mem hx), q⟩
  · rw [rdAt_sup]
    refine ⟨S, Sub.new np, ?_⟩
    rw [hp] at h
    exact h
theorem lplain_2 {EX : EXK} {Q : DK} {S : Sto} {a : List Int} {o : Option D} (ht : Trim a) (hl : a.length ≤ 10000) (h : Q (PT (plainI a)) S) :
    t__law_plain_2 EX (bodyEnds Q) [some (PT a), some (.int (contI 0 a)), o] S := by
  unfold t__law_plain_2
  walk_at "dl"
  refine ⟨sz0, ?_⟩
  by_cases e : a = []
  · subst e
    rw [if_neg (not_not_intro rfl)]
    exact lplain_3 hl (fun z => absurd rfl z) rfl h
  · have hp : plainI a = partI a (signI a) := if_neg e
    have hs := signI_ne ht e
    unfold signI at hp hs
    rw [if_pos e, ix_lastI e]
    walk_at "dl"
    have hl0 : a.getLastD 1 ≠ 0 := ht
    by_cases c : 0 < a.getLastD 1
    · rw [if_pos c] at hp hs
      rw [if_neg (by omega)]
      exact lplain_3 hl (fun _ => hs) hp h
    · rw [if_neg c] at hp hs
      rw [if_pos (by omega)]
      exact lplain_3 hl (fun _ => hs) hp h
theorem sem__law_plain : ∀ ds S Q E, sp_plain ds S Q E → t__law_plain (bodyEX E) (bodyEnds Q) (dstart ["_law_one", "_law_part", "_law_entry"] ds) S := by
  rintro ds S Q E ⟨a, rfl, ht, hl, h⟩
  show t__law_plain (bodyEX E) (bodyEnds Q) [some (PT a), none, none] S
  unfold t__law_plain
  walk_at "dl"
  refine for_inv (fun l δ S' => ∃ (r : List Int) (g : Int) (o : Option D), l = r.map D.int ∧ δ = [some (PT a), some (.int g), o] ∧ S' = S ∧ contI g r = contI 0 a) (fun _ _ _ _ => trivial) ?_ ?_ _ _ _ ⟨a, 0, none, rfl, rfl, rfl, rfl⟩
  · rintro d l δ S' T' ⟨r, g, o, e, rfl, rfl, hc⟩ nx ct rt bk
    cases r with
    | nil => cases e
    | cons x r =>
      rw [List.map_cons, List.cons.injEq] at e
      obtain ⟨rfl, rfl⟩ := e
      walk_at "dl"
      exact nx _ _ ⟨r, _, _, rfl, rfl, rfl, hc⟩
  · rintro δ S' ⟨r, g, o, e, rfl, rfl, hc⟩
    cases r with
    | cons x r => cases e
    | nil =>
      have hc' : g = contI 0 a := hc
      subst hc'
      exact lplain_2 ht hl h
theorem cut_at {a : List Int} {m : Nat} (h : m < a.length) : ix (a.map D.int) (m : Int) = some (.int (co a m)) := by
  have := ix_int (ns := a) (k := (m : Int)) (by omega) (by omega)
  rw [Int.toNat_natCast] at this
  exact this
theorem cutD_take (a : List Int) (m : Nat) (h : m ≤ a.length) : cutD (a.map D.int) none (some (m : Int)) = (a.take m).map D.int := by
  unfold cutD
  rw [HT.sIx_none, HT.sIx_nat, List.drop_zero, List.length_map, Nat.sub_zero, Nat.min_eq_left h, List.map_take]
theorem loop_cut {EX : EXK} {T : DEnds} {S : Sto} {d : D} {a : List Int} (hd : SeqOf S d a) (h : T.nx [some d, some (.int (cutI a).length)] S) : ∀ m : Nat, m ≤ a.length → (∀ j, m ≤ j → co a j = 0) →
    sWhile (tAndD (tVal (eBin oGt (eVar 1) (eC (.int 0)))) (tVal (eBin oEq (eBin oIx (eVar 0) (eBin oSub (eVar 1) (eC (.int 1)))) (eC (.int 0))))) (sAug 1 oSub (eC (.int 1))) EX T [some d, some (.int m)] S := by
  intro m hm h0
  refine ⟨fun k δ S' => ∃ m : Nat, m ≤ a.length ∧ (∀ j, m ≤ j → co a j = 0) ∧ δ = [some d, some (.int m)] ∧ S' = S ∧ k = m, ⟨_, m, hm, h0, rfl, rfl, rfl⟩, ?_⟩
  rintro m δ S' ⟨m', hm, h0, rfl, rfl, rfl⟩
  walk_at "dl"
  by_cases c : (0 : Int) < m
  · rw [if_pos c]
    have e1 : (m : Int) - 1 = ((m - 1 : Nat) : Int) := by omega
    have key : ∀ Q : DK, oIx d (.int ((m : Int) - 1)) S' Q = Q (.int (co a (m - 1))) S' := fun Q => by
      rw [e1]
      rcases hd with rfl | ⟨p, rfl, hp⟩
      · rw [oIx_t, cut_at (by omega)]
      · rw [oIx_r, hp]
        show (match ix (a.map D.int) ((m - 1 : Nat) : Int) with | some d => Q d S' | none => False) = _
        rw [cut_at (by omega)]
    rw [key]
    walk_at "dl"
    by_cases c2 : co a (m - 1) = 0
    · rw [if_pos c2]
      refine ⟨m - 1, by omega, m - 1, by omega, fun j hj => ?_, by rw [e1], rfl⟩
      rcases Nat.lt_or_ge j m with x | x
      · have : j = m - 1 := by omega
        rw [this]; exact c2
      · exact h0 j x
    · rw [if_neg c2]
      have e := cut_take hm h0 (.inr c2)
      rw [← e, List.length_take, Nat.min_eq_left hm] at h
      exact h
  · rw [if_neg c]
    have : m = 0 := by omega
    subst this
    have e := cut_take hm h0 (.inl rfl)
    rw [← e] at h
    exact h
theorem sem__law_cut : ∀ ds S Q E, sp_cut ds S Q E → t__law_cut (bodyEX E) (bodyEnds Q) (dstart ["_law_line", "_law_many_here"] ds) S := by
  rintro ds S Q E ⟨d, a, rfl, hd, h⟩
  show t__law_cut (bodyEX E) (bodyEnds Q) [some d, none] S
  have hc : ∃ m, m ≤ a.length ∧ a.take m = cutI a := by
    refine ⟨(cutI a).length, cutI_len a, ?_⟩
    refine cut_take (cutI_len a) (fun j hj => by rw [← co_cutI, co_ge hj]) ?_
    by_cases e : cutI a = []
    · left; rw [e]; rfl
    · right
      rw [← co_cutI, co_last e]
      exact cutI_trim a
  have ht : a.take (cutI a).length = cutI a := by
    refine cut_take (cutI_len a) (fun j hj => by rw [← co_cutI, co_ge hj]) ?_
    by_cases e : cutI a = []
    · left; rw [e]; rfl
    · right
      rw [← co_cutI, co_last e]
      exact cutI_trim a
  unfold t__law_cut
  simp only [sSeq, sSet, eB, aCons, aNil, eVar, List.getElem?_cons_zero]
  have hlen : ∀ Q : DK, oLen [d] S Q = Q (.int (a.length : Nat)) S := fun Q => by
    rcases hd with rfl | ⟨p, rfl, hp⟩
    · rw [oLen_t, List.length_map]
    · rw [oLen_r, hp]
      show Q (.int (a.map D.int).length) S = _
      rw [List.length_map]
  rw [hlen]
  refine loop_cut hd ?_ a.length (Nat.le_refl _) (fun j hj => co_ge hj)
  rcases hd with rfl | ⟨p, rfl, hp⟩
  · walk_at "dl"
    refine ⟨S, Sub.refl S, ?_⟩
    rw [cutD_take _ _ (cutI_len a), ht]
    exact h
  · walk_at "dl"
    refine ⟨_, rdAt_iff.mp hp, fun q nq => ?_⟩
    refine ⟨S, Sub.new nq, ?_⟩
    rw [cutD_take _ _ (cutI_len a), ht]
    exact h
theorem sem__law_is_poly : ∀ ds S Q E, sp_isPoly ds S Q E → t__law_is_poly (bodyEX E) (bodyEnds Q) (dstart ["_law_found", "_law_entry"] ds) S := by
  rintro ds S Q E ⟨a, rfl, hl, h⟩
  show t__law_is_poly (bodyEX E) (bodyEnds Q) [some (PT a), none] S
  unfold t__law_is_poly
  walk_at "dl"
  intro p np
  refine lc_map (f := fun _ => .bl true) (a.map D.int) [] (fun _ => trivial) (by simp; omega) (fun d hd acc' Q' q => ?_) ?_
  · obtain ⟨x, hx, rfl⟩ := List.mem_map.mp hd
    simp only [dwipe]
    walk_at "dl"
    exact q
  · have e : bools ([] ++ (a.map D.int).map fun _ => D.bl true) = some ((a.map D.int).map fun _ => true) := by
      rw [List.nil_append]
      generalize a.map D.int = l
      induction l with
      | nil => rfl
      | cons x l ih =>
        show Option.map (fun bs => true :: bs) (bools (l.map fun _ => D.bl true)) = _
        rw [ih]
        rfl
    refine ⟨_, _, .inl sup_same, e, ?_⟩
    have e2 : ((a.map D.int).map fun _ => true).all id = true := by simp
    rw [e2]
    walk_at "dl"
    refine ⟨sz0, ?_⟩
    by_cases e0 : a = []
    · subst e0
      rw [if_pos rfl]
      exact ⟨S, Sub.new np, h⟩
    · rw [if_neg e0, ix_lastI e0]
      walk_at "dl"
      refine ⟨S, Sub.new np, ?_⟩
      have e3 : (!decide (a.getLastD 1 = 0)) = decide (Trim a) := by
        rw [Bool.eq_iff_iff]
        simp [Trim]
      rw [e3]
      exact h
theorem sem__law_many : ∀ ds S Q E, sp_many ds S Q E → t__law_many (bodyEX E) (bodyEnds Q) (dstart ["_law_script", "_law_most"] ds) S := by
  rintro ds S Q E ⟨ns, m, rfl, hn, h1, h2, h⟩
  show t__law_many (bodyEX E) (bodyEnds Q) [some (.ltv (ns.map D.int)), some (.int m)] S
  unfold t__law_many
  simp only [sRet, eLstRg1, eB, oMax, oMin, aCons, aNil, eC, eVar, List.getElem?_cons_zero, List.getElem?_cons_succ, oLen_v, o2I_ii, List.length_map]
  generalize ht : (if (if (ns.length : Int) < m then (ns.length : Int) else m) > 1 then (if (ns.length : Int) < m then (ns.length : Int) else m) else 1) = top
  have b1 : 1 ≤ top ∧ top ≤ 1000 := by
    rw [← ht]
    split <;> split <;> omega
  refine ⟨RgOk.of_le (by omega) (by omega) (by omega) (by omega), fun q nq => ⟨_, Sub.refl _, ?_⟩⟩
  exact h q _ (by omega) nq
theorem sem__law_poly : ∀ ds S Q E, sp_lpoly ds S Q E → t__law_poly (bodyEX E) (bodyEnds Q) (dstart ["_law_purse_here", "_law_most", "_law_signs", "_law_found", "_law_k"] ds) S := by
  rintro ds S Q E ⟨p, most, signs, rfl, hp, h0, h1, h2, h3, h⟩
  show t__law_poly (bodyEX E) (bodyEnds Q) [some (.ref p), some (.int most), some (.int signs), none, none] S
  unfold t__law_poly
  walk_at "dl"
  refine ⟨hp, by omega, by omega, fun d S1 d0 d1 b1 hp1 => ⟨by omega, by omega, fun q nq => ?_⟩⟩
  have hpq : p ≠ q := by rintro rfl; obtain ⟨x, y, z, e, _⟩ := hp1; rw [nq] at e; cases e
  refine lc_inv (fun acc S' => ∃ a : List Int, acc = a.map D.int ∧ Drawn signs a ∧ Purse S' p ∧ ∀ b o, b ≠ p → S b = some o → S' b = some o) (fun _ _ _ _ => trivial) (irng 0 d.toNat) [] _ (by simp [irng]; omega) sup_same
    ⟨[], rfl, (fun _ h => nomatch h), hp1.other hpq, fun b o hb e => ?_⟩ ?_ ?_
  · rw [sup_ne (fun z => ?_), b1 b hb]
    · exact e
    · subst z
      rw [b1 b hb, e] at nq
      cases nq
  · rintro v hv acc S' Q' e1 ⟨a, rfl, dr, hp', old⟩ k
    simp only [dwipe]
    walk_at "dl"
    refine ⟨hp', h2, h3, fun n S'' hn b2 hp2 => ?_⟩
    have e2 : S'' q = some (.lst (a.map D.int)) := by rw [b2 q hpq.symm]; exact e1
    refine k (.int n) S'' e2 ⟨a ++ [n], by simp, fun x hx => ?_, hp2.other hpq, fun b o hb e => ?_⟩
    · rcases List.mem_append.mp hx with hx | hx
      · exact dr x hx
      · rw [List.mem_singleton.mp hx]; exact hn
    · rw [sup_ne (fun z => ?_), b2 b hb]
      · exact old b o hb e
      · subst z
        rw [b1 b hb, e] at nq
        cases nq
  · rintro acc S' hl e1 ⟨a, rfl, dr, hp', old⟩
    refine call_cutL (rdAt_of (lstAt_iff.mpr e1)) ?_
    obtain ⟨S0, s0, bp, pp⟩ := settle hp' old
    refine ⟨S0, s0, h _ S0 ?_ (cutI_trim a) (fun x hx => dr x (cutI_mem a hx)) bp pp⟩
    have l1 := cutI_len a
    simp [irng] at hl
    omega
end DL
end L2

/-! LF: the frame of a law: for k in many(script, most): ... -/
namespace L2
namespace DL
open PySem PySem.Spec PyProof PyProof.Rows
theorem But.sub {S S' : Sto} {p : Addr} (n : S p = none) (b : But p S S') : Sub S S' := fun q o e => by
  rw [b q (fun z => by rw [z, n] at e; cases e)]
  exact e
theorem Sub.but {S S1 S2 : Sto} {p : Addr} (s : Sub S S1) (n : S p = none) (b : But p S1 S2) : Sub S S2 := fun q o e => by
  rw [b q (fun z => by rw [z, n] at e; cases e)]
  exact s q o e
theorem Sub.put {S S1 : Sto} {p : Addr} {o : MO} (s : Sub S S1) (n : S p = none) : Sub S (sup S1 p o) := Sub.mut s n
/-- what a turn of a law's loop is asked -/
def Turns1 (ns : List Int) (m : Nat) (b : DS) : Prop := ∀ (EX : EXK) (T : DEnds) (k : Int) (rest : List (Option D)) (S : Sto), 0 ≤ k → k ≤ 1000 → rest.length = m →
  (∀ rest' S', rest'.length = m → Sub S S' → T.nx (some (.ltv (ns.map D.int)) :: some (.int k) :: rest') S') → b EX T (some (.ltv (ns.map D.int)) :: some (.int k) :: rest) S
theorem irng_map (n : Nat) : irng 0 n = ((List.range n).map fun (i : Nat) => (i : Int)).map D.int := by
  rw [irng_eq]
  congr 1
  apply List.map_congr_left
  intro i _
  omega
theorem frame_loop {b : DS} {EX : EXK} {T : DEnds} {m : Nat} {most : Int} {ns : List Int} (hn : ns.length ≤ 63) (h1 : 1 ≤ most) (h2 : most ≤ 1000) (body : Turns1 ns m b)
    (fin : ∀ o1 rest S', rest.length = m → T.nx (some (.ltv (ns.map D.int)) :: o1 :: rest) S') (o1 : Option D) (rest : List (Option D)) (S : Sto) (hr : rest.length = m) :
    sFor (iLstD (eCall sp_many [] (aCons (eVar 0) (aCons (eC (.int most)) aNil)))) (dName 1) b EX T (some (.ltv (ns.map D.int)) :: o1 :: rest) S := by
  simp only [sFor, iLstD_r, eCall, aCons, aNil, eVar, eC, List.getElem?_cons_zero, List.append_nil]
  refine ⟨ns, most, rfl, hn, h1, h2, fun p n hn1 np => ?_⟩
  simp only [rdAt_sup]
  rw [irng_map]
  generalize hks : ((List.range n).map fun (i : Nat) => (i : Int)) = ks
  have hk : ∀ k ∈ ks, 0 ≤ k ∧ k ≤ 1000 := by
    intro k hk
    rw [← hks] at hk
    obtain ⟨i, hi, rfl⟩ := List.mem_map.mp hk
    have := List.mem_range.mp hi
    omega
  clear hks
  generalize hds : ks.map D.int = ds0
  refine for_inv (G := fun S' => rdL S' p ds0) (M := fun l δ S' => ∃ (r : List Int) (o1 : Option D) (rest : List (Option D)), l = r.map D.int ∧ (∀ k ∈ r, 0 ≤ k ∧ k ≤ 1000) ∧ rest.length = m ∧ δ = some (.ltv (ns.map D.int)) :: o1 :: rest ∧ S' p = some (.lst ds0)) ?_ ?_ ?_ _ _ _ ⟨ks, o1, rest, hds.symm, hk, hr, rfl, sup_same⟩
  · rintro l δ S' ⟨_, _, _, _, _, _, _, e⟩
    exact .inl e
  · rintro d l δ S' T' ⟨r, o1, rest, e, hk, hr, rfl, hp⟩ nx ct rt bk
    cases r with
    | nil => cases e
    | cons k r =>
      rw [List.map_cons, List.cons.injEq] at e
      obtain ⟨rfl, rfl⟩ := e
      have hk1 := hk k List.mem_cons_self
      exact body EX T' k rest S' hk1.1 hk1.2 hr fun rest' S2 hr' s => nx _ _ ⟨r, _, rest', rfl, fun i hi => hk i (List.mem_cons_of_mem _ hi), hr', rfl, s p _ hp⟩
  · rintro δ S' ⟨r, o1, rest, e, _, hr, rfl, _⟩
    exact fin o1 rest S' hr
/-- .. and then: return True -/
theorem frame_law {b : DS} {m : Nat} {most : Int} (h1 : 1 ≤ most) (h2 : most ≤ 1000) (body : ∀ ns : List Int, ns.length ≤ 63 → Turns1 ns m b) {nm : List Str} (hm : nm.length = m + 2) :
    ∀ ds S Q E, sp_law ds S Q E → (sSeq (sFor (iLstD (eCall sp_many [] (aCons (eVar 0) (aCons (eC (.int most)) aNil)))) (dName 1) b) (sRet (eC (.bl true)))) (bodyEX E) (bodyEnds Q) (dstart nm ds) S := by
  rintro ds S Q E ⟨ns, rfl, hn, h⟩
  have e : dstart nm [.ltv (ns.map D.int)] = some (.ltv (ns.map D.int)) :: none :: List.replicate m none := by
    unfold dstart
    rw [hm]
    rfl
  rw [e]
  have fin : ∀ o1 (rest : List (Option D)) S', rest.length = m → sRet (eC (.bl true)) (bodyEX E) (bodyEnds Q) (some (.ltv (ns.map D.int)) :: o1 :: rest) S' := fun o1 rest S' _ => ⟨S', Sub.refl S', h S'⟩
  exact frame_loop hn h1 h2 (body ns hn) fin none _ S (by simp)
end DL
end L2

/-! SPc: sums, products, division of polynomials: bits, what is promised. -/
namespace L2
namespace DL
open PySem PySem.Spec PyProof PyProof.Rows
def Bits (n : Nat) (a : List Int) : Prop := ∀ k, (co a k).natAbs < 2 ^ n
theorem two_pos (n : Nat) : 0 < 2 ^ n := Nat.pow_pos (by decide)
theorem Bits.nil {n : Nat} : Bits n [] := fun k => by rw [co_nil]; exact two_pos n
theorem Bits.mem {n : Nat} {a : List Int} (h : Bits n a) {x : Int} (hx : x ∈ a) : x.natAbs < 2 ^ n := by
  obtain ⟨k, hk, rfl⟩ := List.mem_iff_getElem.mp hx
  have e : co a k = a[k] := by simp [co, hk]
  rw [← e]
  exact h k
theorem Bits.of_mem {n : Nat} {a : List Int} (h : ∀ x ∈ a, x.natAbs < 2 ^ n) : Bits n a := fun k => by
  by_cases e : co a k = 0
  · rw [e]; exact two_pos n
  · exact h _ (mem_of_co e)
theorem pow_mono {n m : Nat} (h : n ≤ m) : 2 ^ n ≤ 2 ^ m := Nat.pow_le_pow_right (by decide) h
theorem Bits.mono {n m : Nat} {a : List Int} (h : Bits n a) (hm : n ≤ m) : Bits m a := fun k => Nat.lt_of_lt_of_le (h k) (pow_mono hm)
theorem Bits.cut {n : Nat} {a : List Int} (h : Bits n a) : Bits n (cutI a) := fun k => by rw [co_cutI]; exact h k
theorem Bits.addL {n m : Nat} {a b : List Int} (ha : Bits n a) (hb : Bits n b) (hm : n + 1 ≤ m) : Bits m (addL a b) := fun k => by
  rw [co_addL]
  have h1 := ha k
  have h2 := hb k
  have h3 := pow_mono hm
  rw [Nat.pow_succ] at h3
  omega
theorem Bits.scale {n m l : Nat} {a : List Int} {c : Int} (ha : Bits n a) (hc : c.natAbs < 2 ^ m) (hl : n + m ≤ l) : Bits l (a.map fun x => c * x) := fun k => by
  rw [co_map (Int.mul_zero c), Int.natAbs_mul]
  have h1 : c.natAbs * (co a k).natAbs < 2 ^ m * 2 ^ n := Nat.mul_lt_mul'' hc (ha k)
  rw [← Nat.pow_add] at h1
  exact Nat.lt_of_lt_of_le h1 (pow_mono (by omega))
theorem Bits.neg {n : Nat} {a : List Int} (ha : Bits n a) : Bits n (a.map fun x => -1 * x) := fun k => by
  rw [co_map (by decide)]
  have := ha k
  omega
theorem Bits.part {n : Nat} {a : List Int} {w : Int} (ha : Bits n a) (hw : w ≠ 0) (h : ∀ x ∈ a, w ∣ x) : Bits n (partI a w) := fun k => by
  rw [co_partI]
  by_cases e : co a k = 0
  · rw [e]; simp; exact two_pos n
  · have e2 := fdiv_exact hw (h _ (mem_of_co e))
    have := natAbs_le_mul (p := (co a k).fdiv w) hw
    rw [e2] at this
    exact Nat.lt_of_le_of_lt this (ha k)
theorem mul_ok {n m : Nat} {x y : Int} (hx : x.natAbs < 2 ^ n) (hy : y.natAbs < 2 ^ m) (h : n + m ≤ 100000000) : IntMulOk x y := mulok_of hx hy h
def raiseI (a : List Int) (n : Nat) : List Int := if a = [] then [] else List.replicate n 0 ++ a
theorem co_rep (n : Nat) (a : List Int) (k : Nat) : co (List.replicate n 0 ++ a) k = if k < n then 0 else co a (k - n) := by
  unfold co List.getD
  split
  · rename_i h
    rw [List.getElem?_append_left (by simpa using h)]
    simp [h]
  · rename_i h
    rw [List.getElem?_append_right (by simpa using h)]
    simp
theorem co_raiseI (a : List Int) (n k : Nat) : co (raiseI a n) k = if k < n then 0 else co a (k - n) := by
  unfold raiseI
  split
  · rename_i e
    subst e
    rw [co_nil, co_nil]
    split <;> rfl
  · exact co_rep n a k
theorem Bits.raise {n m : Nat} {a : List Int} (ha : Bits n a) : Bits n (raiseI a m) := fun k => by
  rw [co_raiseI]
  split
  · exact two_pos n
  · exact ha _
theorem ev_rep (a : List Int) (t : Int) : ∀ n : Nat, ev (List.replicate n 0 ++ a) t = t ^ n * ev a t
  | 0 => by simp
  | n + 1 => by
    rw [List.replicate_succ, List.cons_append]
    show 0 + t * ev (List.replicate n 0 ++ a) t = _
    rw [ev_rep a t n, Int.pow_succ]
    grind
theorem ev_raiseI (a : List Int) (n : Nat) (t : Int) : ev (raiseI a n) t = t ^ n * ev a t := by
  unfold raiseI
  split
  · rename_i e
    subst e
    show (0 : Int) = t ^ n * 0
    rw [Int.mul_zero]
  · exact ev_rep a t n
theorem raiseI_len (a : List Int) (n : Nat) : (raiseI a n).length ≤ n + a.length := by
  unfold raiseI
  split
  · exact Nat.zero_le _
  · simp
def negL (a : List Int) : List Int := a.map fun x => -1 * x
def scaleL (c : Int) (a : List Int) : List Int := a.map fun x => c * x
def paddI (a b : List Int) : List Int := cutI (addL a b)
def psubI (a b : List Int) : List Int := cutI (addL a (negL b))
def pscaleI (c : Int) (a : List Int) : List Int := cutI (scaleL c a)
theorem ev_paddI (a b : List Int) (t : Int) : ev (paddI a b) t = ev a t + ev b t := by unfold paddI; rw [ev_cutI, ev_addL]
theorem ev_psubI (a b : List Int) (t : Int) : ev (psubI a b) t = ev a t - ev b t := by unfold psubI negL; rw [ev_cutI, ev_addL, ev_scale]; omega
theorem ev_pscaleI (c : Int) (a : List Int) (t : Int) : ev (pscaleI c a) t = c * ev a t := by unfold pscaleI scaleL; rw [ev_cutI, ev_scale]
theorem co_paddI (a b : List Int) (k : Nat) : co (paddI a b) k = co a k + co b k := by unfold paddI; rw [co_cutI, co_addL]
theorem co_psubI (a b : List Int) (k : Nat) : co (psubI a b) k = co a k - co b k := by unfold psubI negL; rw [co_cutI, co_addL, co_map (by decide)]; omega
theorem co_pscaleI (c : Int) (a : List Int) (k : Nat) : co (pscaleI c a) k = c * co a k := by unfold pscaleI scaleL; rw [co_cutI, co_map (Int.mul_zero c)]
theorem paddI_len (a b : List Int) : (paddI a b).length ≤ max a.length b.length := by have := cutI_len (addL a b); rw [addL_len] at this; exact this
theorem psubI_len (a b : List Int) : (psubI a b).length ≤ max a.length b.length := by have := cutI_len (addL a (negL b)); rw [addL_len] at this; unfold negL at this; rw [List.length_map] at this; exact this
theorem pscaleI_len (c : Int) (a : List Int) : (pscaleI c a).length ≤ a.length := by have := cutI_len (scaleL c a); unfold scaleL at this; rw [List.length_map] at this; exact this
/-! ### one step of division -/
/-- times o the one is h times the other and r, which is shorter than the one -/
structure HeadOk (a b r : List Int) (o : Int) (h : List Int) : Prop where
  tr : Trim r
  th : Trim h
  op : 0 < o
  lt : r.length < a.length
  eq : ∀ t, o * ev a t = ev h t * ev b t + ev r t
  hl : h.length ≤ a.length + 1 - b.length
  bits : ∀ n m, Bits n a → Bits m b → Bits (n + m + 1) r ∧ Bits n h ∧ o.natAbs < 2 ^ m
/-- times k the one is q times the other and r, which is shorter than the other -/
structure RestOk (a b r : List Int) : Prop where
  tr : Trim r
  lt : r.length < b.length
  le : r.length ≤ a.length
  eq : ∃ (k : Int) (q : List Int), 0 < k ∧ ∀ t, k * ev a t = ev q t * ev b t + ev r t
  bits : ∀ n m, Bits n a → Bits m b → Bits (n + (a.length + 1 - b.length) * (m + 1)) r
structure LongOk (a b : List Int) (o : Int) (q r : List Int) : Prop where
  op : 0 < o
  tq : Trim q
  tr : Trim r
  lt : r.length < b.length
  ql : q.length ≤ a.length
  eq : ∀ t, o * ev a t = ev q t * ev b t + ev r t
  one : contI o (q ++ r) = 1
  bits : ∀ n m, Bits n a → Bits m b → Bits (n + (a.length + 1 - b.length) * (m + 1)) q ∧ Bits (n + (a.length + 1 - b.length) * (m + 1)) r ∧ o.natAbs < 2 ^ (n + (a.length + 1 - b.length) * (m + 1) + 1)
def sp_figAt : DSp := fun ds S Q _ => ∃ a k, ds = [PT a, .int k] ∧ 0 ≤ k ∧ Q (.int (co a k.toNat)) S
def sp_pplus : DSp := fun ds S Q _ => ∃ a b, ds = [PT a, PT b] ∧ a.length ≤ 10000 ∧ b.length ≤ 10000 ∧ Q (PT (paddI a b)) S
def sp_pminus : DSp := fun ds S Q _ => ∃ a b, ds = [PT a, PT b] ∧ a.length ≤ 10000 ∧ b.length ≤ 10000 ∧ Q (PT (psubI a b)) S
def sp_scaled : DSp := fun ds S Q _ => ∃ a c, ds = [PT a, .int c] ∧ a.length ≤ 10000 ∧ (∀ x ∈ a, IntMulOk x c) ∧ Q (PT (pscaleI c a)) S
def sp_raised : DSp := fun ds S Q _ => ∃ a k, ds = [PT a, .int k] ∧ 0 ≤ k ∧ k ≤ 1000 ∧ a.length ≤ 1000 ∧ Q (PT (raiseI a k.toNat)) S
def sp_lsum : DSp := fun ds S Q _ => ∃ a b c, ds = [PT a, PT b, .int c] ∧ a.length ≤ 10000 ∧ b.length ≤ 10000 ∧ (∀ x ∈ b, IntMulOk c x) ∧ Q (PT (cutI (addL a (scaleL c b)))) S
def sp_lproduct : DSp := fun ds S Q _ => ∃ a b, ds = [PT a, PT b] ∧ a.length ≤ 1000 ∧ b.length ≤ 1000 ∧ (∀ x ∈ a, ∀ y ∈ b, IntMulOk x y) ∧ Q (PT (pmul a b)) S
def sp_ptimes : DSp := fun ds S Q _ => ∃ a b, ds = [PT a, PT b] ∧ a.length ≤ 1000 ∧ b.length ≤ 1000 ∧ Trim a ∧ Trim b ∧ (∀ x ∈ a, ∀ y ∈ b, IntMulOk x y) ∧ Q (PT (pmul a b)) S
def sp_head : DSp := fun ds S Q _ => ∃ a b, ds = [PT a, PT b] ∧ b ≠ [] ∧ Trim a ∧ Trim b ∧ b.length ≤ a.length ∧ a.length ≤ 900 ∧ (∃ n m, Bits n a ∧ Bits m b ∧ n + m ≤ 100000000) ∧ ∀ r o h, HeadOk a b r o h → Q (.tup [PT r, .int o, PT h]) S
def sp_restBy : DSp := fun ds S Q _ => ∃ a b, ds = [PT a, PT b] ∧ b ≠ [] ∧ Trim a ∧ Trim b ∧ a.length ≤ 900 ∧ (∃ n m, Bits n a ∧ Bits m b ∧ n + (a.length + 1 - b.length + 1) * (m + 1) ≤ 100000000) ∧ ∀ r, RestOk a b r → Q (PT r) S
def sp_longdiv (C : Cs) : DSp := fun ds S Q E => ∃ a b, ds = [PT a, PT b] ∧ (b = [] → E C.nn S) ∧ (b ≠ [] → Trim a ∧ Trim b ∧ a.length ≤ 900 ∧ (∃ n m, Bits n a ∧ Bits m b ∧ n + (a.length + 1 - b.length + 1) * (m + 1) ≤ 100000000) ∧ ∀ o q r, LongOk a b o q r → Q (.tup [.int o, PT q, PT r]) S)
section
variable {S : Sto} {Q : DK} {E : Addr → Sto → Prop} {a b : List Int} {c k : Int} {p : Addr} {d : D}
theorem call_figAt : sp_figAt [PT a, .int k] S Q E = (0 ≤ k ∧ Q (.int (co a k.toNat)) S) :=
  propext ⟨fun ⟨_, _, e, h⟩ => by simp only [List.cons.injEq] at e; obtain ⟨e1, e2, _⟩ := e; obtain rfl := pt_inj e1; cases e2; exact h, fun h => ⟨_, _, rfl, h⟩⟩
theorem call_pplus : sp_pplus [PT a, PT b] S Q E = (a.length ≤ 10000 ∧ b.length ≤ 10000 ∧ Q (PT (paddI a b)) S) :=
  propext ⟨fun ⟨_, _, e, h⟩ => by simp only [List.cons.injEq] at e; obtain ⟨e1, e2, _⟩ := e; obtain rfl := pt_inj e1; obtain rfl := pt_inj e2; exact h, fun h => ⟨_, _, rfl, h⟩⟩
theorem call_pminus : sp_pminus [PT a, PT b] S Q E = (a.length ≤ 10000 ∧ b.length ≤ 10000 ∧ Q (PT (psubI a b)) S) :=
  propext ⟨fun ⟨_, _, e, h⟩ => by simp only [List.cons.injEq] at e; obtain ⟨e1, e2, _⟩ := e; obtain rfl := pt_inj e1; obtain rfl := pt_inj e2; exact h, fun h => ⟨_, _, rfl, h⟩⟩
theorem call_scaled : sp_scaled [PT a, .int c] S Q E = (a.length ≤ 10000 ∧ (∀ x ∈ a, IntMulOk x c) ∧ Q (PT (pscaleI c a)) S) :=
  propext ⟨fun ⟨_, _, e, h⟩ => by simp only [List.cons.injEq] at e; obtain ⟨e1, e2, _⟩ := e; obtain rfl := pt_inj e1; cases e2; exact h, fun h => ⟨_, _, rfl, h⟩⟩
theorem call_raised : sp_raised [PT a, .int k] S Q E = (0 ≤ k ∧ k ≤ 1000 ∧ a.length ≤ 1000 ∧ Q (PT (raiseI a k.toNat)) S) :=
  propext ⟨fun ⟨_, _, e, h⟩ => by simp only [List.cons.injEq] at e; obtain ⟨e1, e2, _⟩ := e; obtain rfl := pt_inj e1; cases e2; exact h, fun h => ⟨_, _, rfl, h⟩⟩
theorem call_lsum : sp_lsum [PT a, PT b, .int c] S Q E = (a.length ≤ 10000 ∧ b.length ≤ 10000 ∧ (∀ x ∈ b, IntMulOk c x) ∧ Q (PT (cutI (addL a (scaleL c b)))) S) :=
  propext ⟨fun ⟨_, _, _, e, h⟩ => by simp only [List.cons.injEq] at e; obtain ⟨e1, e2, e3, _⟩ := e; obtain rfl := pt_inj e1; obtain rfl := pt_inj e2; cases e3; exact h, fun h => ⟨_, _, _, rfl, h⟩⟩
theorem call_lproduct : sp_lproduct [PT a, PT b] S Q E = (a.length ≤ 1000 ∧ b.length ≤ 1000 ∧ (∀ x ∈ a, ∀ y ∈ b, IntMulOk x y) ∧ Q (PT (pmul a b)) S) :=
  propext ⟨fun ⟨_, _, e, h⟩ => by simp only [List.cons.injEq] at e; obtain ⟨e1, e2, _⟩ := e; obtain rfl := pt_inj e1; obtain rfl := pt_inj e2; exact h, fun h => ⟨_, _, rfl, h⟩⟩
theorem call_ptimes : sp_ptimes [PT a, PT b] S Q E = (a.length ≤ 1000 ∧ b.length ≤ 1000 ∧ Trim a ∧ Trim b ∧ (∀ x ∈ a, ∀ y ∈ b, IntMulOk x y) ∧ Q (PT (pmul a b)) S) :=
  propext ⟨fun ⟨_, _, e, h⟩ => by simp only [List.cons.injEq] at e; obtain ⟨e1, e2, _⟩ := e; obtain rfl := pt_inj e1; obtain rfl := pt_inj e2; exact h, fun h => ⟨_, _, rfl, h⟩⟩
theorem call_head : sp_head [PT a, PT b] S Q E = (b ≠ [] ∧ Trim a ∧ Trim b ∧ b.length ≤ a.length ∧ a.length ≤ 900 ∧ (∃ n m, Bits n a ∧ Bits m b ∧ n + m ≤ 100000000) ∧ ∀ r o h, HeadOk a b r o h → Q (.tup [PT r, .int o, PT h]) S) :=
  propext ⟨fun ⟨_, _, e, h⟩ => by simp only [List.cons.injEq] at e; obtain ⟨e1, e2, _⟩ := e; obtain rfl := pt_inj e1; obtain rfl := pt_inj e2; exact h, fun h => ⟨_, _, rfl, h⟩⟩
theorem call_restBy : sp_restBy [PT a, PT b] S Q E = (b ≠ [] ∧ Trim a ∧ Trim b ∧ a.length ≤ 900 ∧ (∃ n m, Bits n a ∧ Bits m b ∧ n + (a.length + 1 - b.length + 1) * (m + 1) ≤ 100000000) ∧ ∀ r, RestOk a b r → Q (PT r) S) :=
  propext ⟨fun ⟨_, _, e, h⟩ => by simp only [List.cons.injEq] at e; obtain ⟨e1, e2, _⟩ := e; obtain rfl := pt_inj e1; obtain rfl := pt_inj e2; exact h, fun h => ⟨_, _, rfl, h⟩⟩
theorem call_longdiv {C : Cs} : sp_longdiv C [PT a, PT b] S Q E = ((b = [] → E C.nn S) ∧ (b ≠ [] → Trim a ∧ Trim b ∧ a.length ≤ 900 ∧ (∃ n m, Bits n a ∧ Bits m b ∧ n + (a.length + 1 - b.length + 1) * (m + 1) ≤ 100000000) ∧ ∀ o q r, LongOk a b o q r → Q (.tup [.int o, PT q, PT r]) S)) :=
  propext ⟨fun ⟨_, _, e, h⟩ => by simp only [List.cons.injEq] at e; obtain ⟨e1, e2, _⟩ := e; obtain rfl := pt_inj e1; obtain rfl := pt_inj e2; exact h, fun h => ⟨_, _, rfl, h⟩⟩
end
end DL
end L2

/-! LQ: loops over ranges and enumerations by place; one figure changed. -/
namespace L2
namespace DL
open PySem PySem.Spec PyProof PyProof.Rows
theorem irng_getElem {n i : Nat} (h : i < n) : (irng 0 n)[i]'(by simpa [irng] using h) = D.int (i : Int) := by
  simp [irng]
theorem irng_drop {n i : Nat} (h : i < n) : (irng 0 n).drop i = D.int (i : Int) :: (irng 0 n).drop (i + 1) := by
  rw [List.drop_eq_getElem_cons (by simpa [irng] using h), irng_getElem h]
theorem irng_len (n : Nat) : (irng 0 n).length = n := by simp [irng]
theorem for_range {b : DS} {EX : EXK} {T : DEnds} {v n : Nat} (M : Nat → DSt → Sto → Prop)
    (step : ∀ i δ S (T' : DEnds), i < n → M i δ S → (∀ δ' S', M (i + 1) δ' S' → T'.nx δ' S') → (∀ δ' S', M (i + 1) δ' S' → T'.ct δ' S') → T'.rt = T.rt → T'.bk = T.nx → b EX T' (δ.set v (some (.int i))) S)
    (fin : ∀ δ S, M n δ S → T.nx δ S) {δ : DSt} {S : Sto} (h : M 0 δ S) : sForIn (fun _ => True) (dName v) b (irng 0 n) EX T δ S := by
  refine for_inv (fun l δ S => ∃ i, i ≤ n ∧ l = (irng 0 n).drop i ∧ M i δ S) (fun _ _ _ _ => trivial) ?_ ?_ _ _ _ ⟨0, Nat.zero_le _, rfl, h⟩
  · rintro d l δ S T' ⟨i, hi, e, m⟩ nx ct rt bk
    by_cases hlt : i < n
    · rw [irng_drop hlt, List.cons.injEq] at e
      obtain ⟨rfl, rfl⟩ := e
      exact step i δ S T' hlt m (fun δ' S' m' => nx _ _ ⟨i + 1, hlt, rfl, m'⟩) (fun δ' S' m' => ct _ _ ⟨i + 1, hlt, rfl, m'⟩) rt bk
    · rw [List.drop_of_length_le (by rw [irng_len]; omega)] at e
      cases e
  · rintro δ S ⟨i, hi, e, m⟩
    by_cases hlt : i < n
    · rw [irng_drop hlt] at e
      cases e
    · obtain rfl : i = n := by omega
      exact fin δ S m
theorem enumD_getElem {a : List Int} {i : Nat} (h : i < a.length) : (enumD (a.map D.int))[i]'(by simpa [enumD] using h) = .tup [.int (i : Int), .int (co a i)] := by
  simp [enumD, co, h]
theorem enumD_len (a : List Int) : (enumD (a.map D.int)).length = a.length := by simp [enumD]
theorem enumD_drop {a : List Int} {i : Nat} (h : i < a.length) : (enumD (a.map D.int)).drop i = .tup [.int (i : Int), .int (co a i)] :: (enumD (a.map D.int)).drop (i + 1) := by
  rw [List.drop_eq_getElem_cons (by rw [enumD_len]; exact h), enumD_getElem h]
theorem for_enum {b : DS} {EX : EXK} {T : DEnds} {u v : Nat} {a : List Int} (M : Nat → DSt → Sto → Prop)
    (step : ∀ i δ S (T' : DEnds), i < a.length → M i δ S → (∀ δ' S', M (i + 1) δ' S' → T'.nx δ' S') → (∀ δ' S', M (i + 1) δ' S' → T'.ct δ' S') → T'.rt = T.rt → T'.bk = T.nx → b EX T' ((δ.set u (some (.int i))).set v (some (.int (co a i)))) S)
    (fin : ∀ δ S, M a.length δ S → T.nx δ S) {δ : DSt} {S : Sto} (h : M 0 δ S) : sForIn (fun _ => True) (dTup 2 (dCons (dName u) (dCons (dName v) dNil))) b (enumD (a.map D.int)) EX T δ S := by
  refine for_inv (fun l δ S => ∃ i, i ≤ a.length ∧ l = (enumD (a.map D.int)).drop i ∧ M i δ S) (fun _ _ _ _ => trivial) ?_ ?_ _ _ _ ⟨0, Nat.zero_le _, rfl, h⟩
  · rintro d l δ S T' ⟨i, hi, e, m⟩ nx ct rt bk
    by_cases hlt : i < a.length
    · rw [enumD_drop hlt, List.cons.injEq] at e
      obtain ⟨rfl, rfl⟩ := e
      exact ⟨rfl, step i δ S T' hlt m (fun δ' S' m' => nx _ _ ⟨i + 1, hlt, rfl, m'⟩) (fun δ' S' m' => ct _ _ ⟨i + 1, hlt, rfl, m'⟩) rt bk⟩
    · rw [List.drop_of_length_le (by rw [enumD_len]; omega)] at e
      cases e
  · rintro δ S ⟨i, hi, e, m⟩
    by_cases hlt : i < a.length
    · rw [enumD_drop hlt] at e
      cases e
    · obtain rfl : i = a.length := by omega
      exact fin δ S m
theorem ev_take_succ (t : Int) : ∀ (a : List Int) (i : Nat), ev (a.take (i + 1)) t = ev (a.take i) t + co a i * t ^ i
  | [], i => by rw [co_nil]; simp [ev]
  | x :: xs, 0 => by
    show x + t * ev (xs.take 0) t = 0 + x * t ^ 0
    simp [ev]
  | x :: xs, i + 1 => by
    show x + t * ev (xs.take (i + 1)) t = x + t * ev (xs.take i) t + co (x :: xs) (i + 1) * t ^ (i + 1)
    rw [ev_take_succ t xs i, co_succ, Int.pow_succ]
    grind
theorem ev_set (t v : Int) : ∀ (f : List Int) (k : Nat), k < f.length → ev (f.set k (co f k + v)) t = ev f t + v * t ^ k
  | [], k, h => nomatch h
  | x :: xs, 0, h => by
    show (x + v) + t * ev xs t = x + t * ev xs t + v * t ^ 0
    simp
    omega
  | x :: xs, k + 1, h => by
    show x + t * ev (xs.set k (co (x :: xs) (k + 1) + v)) t = x + t * ev xs t + v * t ^ (k + 1)
    rw [co_succ, ev_set t v xs k (by simpa using h), Int.pow_succ]
    grind
theorem ev_zeros (t : Int) (n : Nat) : ev (List.replicate n 0) t = 0 := ev_of_zero _ t fun k => by
  have := co_rep n [] k
  rw [List.append_nil] at this
  rw [this, co_nil]
  split <;> rfl
theorem set_map (f : List Int) (k : Nat) (v : Int) : (f.map D.int).set k (.int v) = (f.set k v).map D.int := by
  rw [List.map_set]
theorem ixN_nat {n k : Nat} (h : k < n) : ixN n (k : Int) = some k := by
  unfold ixN
  rw [if_pos (by omega), if_pos (by omega)]
  simp
/-- the list at p: one figure more at a place -/
theorem augS_at {EX : EXK} {T : DEnds} {δ : DSt} {S : Sto} {p : Addr} {f : List Int} {k : Nat} {v : Int} {a b e : DE} (ha : ∀ S' Q, Q (.ref p) S' → a EX δ S' Q) (hb : ∀ S' Q, Q (.int (k : Int)) S' → b EX δ S' Q) (he : ∀ S' Q, Q (.int v) S' → e EX δ S' Q)
    (hp : S p = some (.lst (f.map D.int))) (hk : k < f.length) (h : T.nx δ (sup S p (.lst ((f.set k (co f k + v)).map D.int)))) : sAugS a b e oIadd EX T δ S := by
  refine ha _ _ (hb _ _ ?_)
  refine ⟨f.map D.int, .inl hp, ?_⟩
  rw [cut_at hk]
  refine he _ _ ?_
  show oSet (.ref p) (.int (k : Int)) (.int (co f k + v)) S _
  refine ⟨f.map D.int, k, hp, ixN_nat (by rw [List.length_map]; exact hk), ?_⟩
  rw [set_map]
  exact h
theorem bits_mulL {n m : Nat} : ∀ {a b : List Int}, Bits n a → Bits m b → Bits (n + m + a.length) (mulL a b)
  | [], _, _, _ => Bits.nil
  | x :: xs, b, ha, hb => by
    have hx : x.natAbs < 2 ^ n := ha 0
    have hxs : Bits n xs := fun k => by rw [← co_succ x]; exact ha (k + 1)
    have ih := bits_mulL hxs hb
    show Bits _ (addL (b.map fun y => x * y) (0 :: mulL xs b))
    refine Bits.addL (n := n + m + xs.length) (hb.scale hx (by omega)) (fun k => ?_) (by simp only [List.length_cons]; omega)
    cases k with
    | zero => exact two_pos _
    | succ k => rw [co_succ]; exact ih k
theorem Drawn.bits {signs : Int} {a : List Int} {n : Nat} (h : Drawn signs a) (hs : signs < 2 ^ n) (h4 : 4 ≤ n) : Bits n a := Bits.of_mem fun x hx => drawn_bd (h x hx) hs h4
theorem e30 : (10 : Int) ^ Int.toNat 30 = 1000000000000000000000000000000 := by decide
theorem e12 : (10 : Int) ^ Int.toNat 12 = 1000000000000 := by decide
theorem e9 : (10 : Int) ^ Int.toNat 9 = 1000000000 := by decide
end DL
end L2

namespace L2
namespace DL
open PySem PySem.Spec PyProof PyProof.Rows
local macro_rules | `(tactic| walk_at "dl") => `(tactic| simp only [sSeq, sSet, sIf, sRet, sPar, sNext, sDrop, sAsg, sRaise, eBin, eUn, eVar, eC, eB, eM, eM0, eTup, eLst, eCall, eAndV, eOrV, eNotV, eIf, aCons, aNil, tVal, tAndD, tOrD, tNotD, cBl, dName, dSub, dTup, dLst, dCons, dNil,
  onI_ii, onIC_ii, oAdd_ii, oAdd_tt, oIadd_ii, oMul_ii, oNeg_i, oEq_ii, oNe_ii, oIx_t, oIx_v, oIx_r, oLen_t, oLen_v, oLen_r, oAbs_i, o2I_ii, oInt_i, oInt_b, oTuple_t, oTuple_r, isi_int, isi_bool, isi_tup, oSet_r, oAppend_r, isL_r, iLstD_r, lstAt_sup, rdAt_sup, ix0, ix1, ix2, ix3, sFor, iRange1, iRange2,
  call_divisor, call_number, call_plus, call_minus, call_times, call_over, call_draw, call_whole, call_isWhole, call_isNumber, call_low, call_told, call_lover, call_right,
  call_content, call_parted, call_plain, call_isPoly, call_lpoly, oEq_pp, oNe_pp, oEq_p0, oNe_p0, iTupD, eLc, oMul_t, eSl, pNone, pSome, cSl, sAug, eLstRg1, tYesD, sPar3, call_figAt, call_pplus, call_pminus, call_scaled, call_raised, call_lsum, call_lproduct, call_ptimes, call_head, call_restBy, call_longdiv,
  bodyEnds, bodyEX, List.set_cons_zero, List.set_cons_succ, List.getElem?_cons_zero, List.getElem?_cons_succ, decide_eq_true_eq, Bool.not_eq_true', decide_eq_false_iff_not, List.nil_append, List.append_nil, List.cons_append, Bool.false_eq_true, if_false, if_true, true_and, and_true])
/-- poly: 0 figures, 1 many -/
def t_poly : DS :=
  (sSeq (sSet 1 (eB oLen (aCons (eVar 0) aNil)))
  (sSeq (sWhile (tAndD (tVal (eBin oGt (eVar 1) (eC (.int 0)))) (tVal (eBin oEq (eBin oIx (eVar 0) (eBin oSub (eVar 1) (eC (.int 1)))) (eC (.int 0))))) (sSet 1 (eBin oSub (eVar 1) (eC (.int 1)))))
  (sRet (eB oTuple (aCons (eSl (eVar 0) pNone (pSome (eVar 1))) aNil)))))
/-- figure_at: 0 one, 1 power -/
def t_figure_at : DS :=
  (sRet (eIf (tVal (eBin oLt (eVar 1) (eB oLen (aCons (eVar 0) aNil)))) (eBin oIx (eVar 0) (eVar 1)) (eC (.int 0))))
/-- poly_plus: 0 one, 1 other, 2 many, 3 k -/
def t_poly_plus : DS :=
  (sSeq (sSet 2 (eB oMax (aCons (eB oLen (aCons (eVar 0) aNil)) (aCons (eB oLen (aCons (eVar 1) aNil)) aNil))))
  (sRet (eCall sp_cut [] (aCons (eLc (iRange1 (aCons (eVar 2) aNil)) (dName 3) tYesD (eBin oAdd (eCall sp_figAt [] (aCons (eVar 0) (aCons (eVar 3) aNil))) (eCall sp_figAt [] (aCons (eVar 1) (aCons (eVar 3) aNil)))) [3]) aNil))))
/-- poly_minus: 0 one, 1 other, 2 many, 3 k -/
def t_poly_minus : DS :=
  (sSeq (sSet 2 (eB oMax (aCons (eB oLen (aCons (eVar 0) aNil)) (aCons (eB oLen (aCons (eVar 1) aNil)) aNil))))
  (sRet (eCall sp_cut [] (aCons (eLc (iRange1 (aCons (eVar 2) aNil)) (dName 3) tYesD (eBin oSub (eCall sp_figAt [] (aCons (eVar 0) (aCons (eVar 3) aNil))) (eCall sp_figAt [] (aCons (eVar 1) (aCons (eVar 3) aNil)))) [3]) aNil))))
/-- scaled: 0 one, 1 often, 2 figure -/
def t_scaled : DS :=
  (sRet (eCall sp_cut [] (aCons (eLc (iTupD (eVar 0)) (dName 2) tYesD (eBin oMul (eVar 2) (eVar 1)) [2]) aNil)))
/-- raised: 0 one, 1 power -/
def t_raised : DS :=
  (sRet (eIf (tVal (eBin oNe (eVar 0) (eTup aNil))) (eBin oAdd (eBin oMul (eTup (aCons (eC (.int 0)) aNil)) (eVar 1)) (eVar 0)) (eTup aNil)))
def t_without_head_4 : DS :=
  (sSeq (sSet 5 (eBin oSub (eB oLen (aCons (eVar 0) aNil)) (eB oLen (aCons (eVar 1) aNil))))
  (sRet (eTup (aCons (eCall sp_pminus [] (aCons (eCall sp_scaled [] (aCons (eVar 0) (aCons (eVar 3) aNil))) (aCons (eCall sp_raised [] (aCons (eCall sp_scaled [] (aCons (eVar 1) (aCons (eVar 4) aNil))) (aCons (eVar 5) aNil))) aNil))) (aCons (eVar 3) (aCons (eCall sp_raised [] (aCons (eTup (aCons (eVar 4) aNil)) (aCons (eVar 5) aNil))) aNil))))))
/-- without_head: 0 one, 1 other, 2 part, 3 often, 4 head, 5 power -/
def t_without_head : DS :=
  (sSeq (sSet 2 (eCall sp_divisor [] (aCons (eBin oIx (eVar 0) (eUn oNeg (eC (.int 1)))) (aCons (eBin oIx (eVar 1) (eUn oNeg (eC (.int 1)))) aNil))))
  (sSeq (sSet 3 (eBin oFdiv (eBin oIx (eVar 1) (eUn oNeg (eC (.int 1)))) (eVar 2)))
  (sSeq (sSet 4 (eBin oFdiv (eBin oIx (eVar 0) (eUn oNeg (eC (.int 1)))) (eVar 2)))
  (sSeq (sIf (tVal (eBin oLt (eVar 3) (eC (.int 0)))) (sPar 3 4 (eUn oNeg (eVar 3)) (eUn oNeg (eVar 4))) sNext)
  (t_without_head_4)))))
def t_long_division_3 (C : Cs) : DS :=
  (sSeq (sSet 7 (eCall sp_divisor [] (aCons (eVar 2) (aCons (eCall sp_divisor [] (aCons (eCall sp_content [] (aCons (eVar 3) aNil)) (aCons (eCall sp_content [] (aCons (eVar 4) aNil)) aNil))) aNil))))
  (sRet (eTup (aCons (eBin oFdiv (eVar 2) (eVar 7)) (aCons (eCall sp_parted [] (aCons (eVar 3) (aCons (eVar 7) aNil))) (aCons (eCall sp_parted [] (aCons (eVar 4) (aCons (eVar 7) aNil))) aNil))))))
def t_long_division_2 (C : Cs) : DS :=
  (sSeq (sWhile (tVal (eBin oGe (eB oLen (aCons (eVar 4) aNil)) (eB oLen (aCons (eVar 1) aNil)))) (sSeq (sAsg (eCall sp_head [] (aCons (eVar 4) (aCons (eVar 1) aNil))) (dTup 3 (dCons (dName 4) (dCons (dName 5) (dCons (dName 6) dNil)))))
  (sSeq (sSet 2 (eBin oMul (eVar 2) (eVar 5)))
  (sSet 3 (eCall sp_pplus [] (aCons (eCall sp_scaled [] (aCons (eVar 3) (aCons (eVar 5) aNil))) (aCons (eVar 6) aNil)))))))
  (t_long_division_3 C))
/-- long_division: 0 one, 1 other, 2 often, 3 quotient, 4 rest, 5 more, 6 head, 7 part -/
def t_long_division (C : Cs) : DS :=
  (sSeq (sIf (tVal (eBin oEq (eVar 1) (eTup aNil))) (sRaise C.nn) sNext)
  (sSeq (sPar3 2 3 4 (aCons (eC (.int 1)) (aCons (eTup aNil) (aCons (eVar 0) aNil))))
  (t_long_division_2 C)))
/-- _law_sum: 0 _law_one, 1 _law_other, 2 _law_often, 3 _law_many_here, 4 _law_left, 5 _law_right_here, 6 _law_k -/
def t__law_sum : DS :=
  (sSeq (sSet 3 (eB oMax (aCons (eB oLen (aCons (eVar 0) aNil)) (aCons (eB oLen (aCons (eVar 1) aNil)) aNil))))
  (sSeq (sSet 4 (eBin oAdd (eB oList (aCons (eVar 0) aNil)) (eBin oMul (eLst (aCons (eC (.int 0)) aNil)) (eBin oSub (eVar 3) (eB oLen (aCons (eVar 0) aNil))))))
  (sSeq (sSet 5 (eBin oAdd (eB oList (aCons (eVar 1) aNil)) (eBin oMul (eLst (aCons (eC (.int 0)) aNil)) (eBin oSub (eVar 3) (eB oLen (aCons (eVar 1) aNil))))))
  (sRet (eCall sp_cut [] (aCons (eLc (iRange1 (aCons (eVar 3) aNil)) (dName 6) tYesD (eBin oAdd (eBin oIx (eVar 4) (eVar 6)) (eBin oMul (eVar 2) (eBin oIx (eVar 5) (eVar 6)))) [6]) aNil))))))
/-- _law_product: 0 _law_one, 1 _law_other, 2 _law_found, 3 _law_k, 4 _law_j -/
def t__law_product : DS :=
  (sSeq (sSet 2 (eBin oMul (eLst (aCons (eC (.int 0)) aNil)) (eBin oAdd (eB oLen (aCons (eVar 0) aNil)) (eB oLen (aCons (eVar 1) aNil)))))
  (sSeq (sFor (iRange1 (aCons (eB oLen (aCons (eVar 0) aNil)) aNil)) (dName 3) (sFor (iRange1 (aCons (eB oLen (aCons (eVar 1) aNil)) aNil)) (dName 4) (sAugS (eVar 2) (eBin oAdd (eVar 3) (eVar 4)) (eBin oMul (eBin oIx (eVar 0) (eVar 3)) (eBin oIx (eVar 1) (eVar 4))) oIadd)))
  (sRet (eCall sp_cut [] (aCons (eVar 2) aNil)))))
theorem sem_figure_at : ∀ ds S Q E, sp_figAt ds S Q E → t_figure_at (bodyEX E) (bodyEnds Q) (dstart ["one", "power"] ds) S := by
  rintro ds S Q E ⟨a, k, rfl, h0, h⟩
  show t_figure_at (bodyEX E) (bodyEnds Q) [some (PT a), some (.int k)] S
  unfold t_figure_at
  walk_at "dl"
  rw [List.length_map]
  by_cases c : k < a.length
  · rw [if_pos c]
    have e : k = ((k.toNat : Nat) : Int) := by omega
    have e2 : ix (a.map D.int) k = some (.int (co a k.toNat)) := by
      conv => lhs; rw [e]
      exact cut_at (by omega)
    rw [e2]
    exact ⟨S, Sub.refl S, h⟩
  · rw [if_neg c]
    rw [co_ge (by omega)] at h
    exact ⟨S, Sub.refl S, h⟩
theorem sem_poly : ∀ ds S Q E, sp_cut ds S Q E → t_poly (bodyEX E) (bodyEnds Q) (dstart ["figures", "many"] ds) S := sem__law_cut
theorem lc_cast {n : Nat} {f g : Nat → Int} (a : List Int) (h : ∀ k, k < n → f k = co a k) (h0 : ∀ k, n ≤ k → co a k = 0) : cutI (((List.range n).map fun (i : Nat) => (i : Int)).map fun k => f k.toNat) = cutI a := by
  refine cutI_congr fun k => ?_
  rw [List.map_map]
  have e : ((fun k : Int => f k.toNat) ∘ fun (i : Nat) => (i : Int)) = f := by
    funext i
    simp
  rw [e, show (List.range n).map f = lin f n from rfl, co_lin]
  split
  · rename_i c; exact h k c
  · rename_i c; exact (h0 k (by omega)).symm
theorem max_eq (x y : Nat) : (if (y : Int) > x then (y : Int) else x) = ((max x y : Nat) : Int) := by
  split <;> omega
theorem sem_poly_plus : ∀ ds S Q E, sp_pplus ds S Q E → t_poly_plus (bodyEX E) (bodyEnds Q) (dstart ["one", "other", "many", "k"] ds) S := by
  rintro ds S Q E ⟨a, b, rfl, ha, hb, h⟩
  show t_poly_plus (bodyEX E) (bodyEnds Q) [some (PT a), some (PT b), none, none] S
  unfold t_poly_plus
  simp only [sSeq, sSet, sRet, eCall, eB, oMax, eVar, aCons, aNil, List.getElem?_cons_zero, List.getElem?_cons_succ, oLen_t, o2I_ii, List.length_map, max_eq, List.set_cons_zero, List.set_cons_succ, eLc, iRange1, List.append_nil, Int.toNat_natCast]
  refine ⟨by omega, by omega, fun p np => ?_⟩
  rw [irng_map]
  refine lc_ints (f := fun k => (fun j => co a j + co b j) k.toNat) _ [] (fun _ => trivial) (by simp; omega) (fun x hx acc' Q' q => ?_) ?_
  · simp only [dwipe]
    walk_at "dl"
    obtain ⟨i, hi, rfl⟩ := List.mem_map.mp hx
    exact ⟨by omega, by omega, q⟩
  · refine call_cutL (rdAt_sup) ⟨S, Sub.new np, ?_⟩
    rw [List.nil_append, lc_cast (g := fun _ => 0) (addL a b) (fun k _ => (co_addL a b k).symm) (fun k hk => co_ge (by rw [addL_len]; omega))]
    exact h
theorem sem_poly_minus : ∀ ds S Q E, sp_pminus ds S Q E → t_poly_minus (bodyEX E) (bodyEnds Q) (dstart ["one", "other", "many", "k"] ds) S := by
  rintro ds S Q E ⟨a, b, rfl, ha, hb, h⟩
  show t_poly_minus (bodyEX E) (bodyEnds Q) [some (PT a), some (PT b), none, none] S
  unfold t_poly_minus
  simp only [sSeq, sSet, sRet, eCall, eB, oMax, eVar, aCons, aNil, List.getElem?_cons_zero, List.getElem?_cons_succ, oLen_t, o2I_ii, List.length_map, max_eq, List.set_cons_zero, List.set_cons_succ, eLc, iRange1, List.append_nil, Int.toNat_natCast]
  refine ⟨by omega, by omega, fun p np => ?_⟩
  rw [irng_map]
  refine lc_ints (f := fun k => (fun j => co a j - co b j) k.toNat) _ [] (fun _ => trivial) (by simp; omega) (fun x hx acc' Q' q => ?_) ?_
  · simp only [dwipe]
    walk_at "dl"
    obtain ⟨i, hi, rfl⟩ := List.mem_map.mp hx
    exact ⟨by omega, by omega, q⟩
  · refine call_cutL (rdAt_sup) ⟨S, Sub.new np, ?_⟩
    rw [List.nil_append, lc_cast (f := fun j => co a j - co b j) (g := fun _ => 0) (addL a (negL b)) (fun k _ => by show co a k - co b k = _; unfold negL; rw [co_addL, co_map (by decide)]; omega) (fun k hk => co_ge (by unfold negL; rw [addL_len, List.length_map]; omega))]
    exact h
theorem sem_scaled : ∀ ds S Q E, sp_scaled ds S Q E → t_scaled (bodyEX E) (bodyEnds Q) (dstart ["one", "often", "figure"] ds) S := by
  rintro ds S Q E ⟨a, c, rfl, ha, hm, h⟩
  show t_scaled (bodyEX E) (bodyEnds Q) [some (PT a), some (.int c), none] S
  unfold t_scaled
  walk_at "dl"
  intro p np
  refine lc_ints (f := fun x => x * c) a [] (fun _ => trivial) (by simp; omega) (fun x hx acc' Q' q => ?_) ?_
  · simp only [dwipe]
    walk_at "dl"
    exact ⟨hm x hx, q⟩
  · refine call_cutL (rdAt_sup) ⟨S, Sub.new np, ?_⟩
    have e : (a.map fun x => x * c) = scaleL c a := by
      unfold scaleL
      exact List.map_congr_left fun x _ => Int.mul_comm x c
    rw [List.nil_append, e]
    exact h
theorem flat_zeros (n : Nat) : (List.replicate n [D.int 0]).flatten = (List.replicate n (0 : Int)).map D.int := by
  induction n with
  | zero => rfl
  | succ n ih => rw [List.replicate_succ, List.flatten_cons, ih]; rfl
theorem sem_raised : ∀ ds S Q E, sp_raised ds S Q E → t_raised (bodyEX E) (bodyEnds Q) (dstart ["one", "power"] ds) S := by
  rintro ds S Q E ⟨a, k, rfl, h0, h1, hl, h⟩
  show t_raised (bodyEX E) (bodyEnds Q) [some (PT a), some (.int k)] S
  unfold t_raised
  walk_at "dl"
  refine ⟨sz0, ?_⟩
  by_cases e : a = []
  · rw [if_neg (not_not_intro e)]
    unfold raiseI at h
    rw [if_pos e] at h
    exact ⟨sz0, S, Sub.refl S, h⟩
  · rw [if_pos e]
    unfold raiseI at h
    rw [if_neg e] at h
    refine ⟨sz1, ⟨by omega, by omega, by decide⟩, ?_, S, Sub.refl S, ?_⟩
    · rw [flat_zeros, List.length_map, List.length_map, List.length_replicate]
      exact size_le (by omega)
    · rw [flat_zeros, ← List.map_append]
      exact h
theorem head_ok {a b : List Int} {o h : Int} (hb : b ≠ []) (ta : Trim a) (tb : Trim b) (hl : b.length ≤ a.length) (op : 0 < o) (cr : o * a.getLastD 1 = h * b.getLastD 1) (bo : o.natAbs ≤ (b.getLastD 1).natAbs) (bh : h.natAbs ≤ (a.getLastD 1).natAbs) :
    HeadOk a b (psubI (pscaleI o a) (raiseI (pscaleI h b) (a.length - b.length))) o (raiseI [h] (a.length - b.length)) := by
  have lb := List.length_pos_iff.mpr hb
  have ha : a ≠ [] := by rintro rfl; simp at hl; exact hb hl
  have hla : a.getLastD 1 ≠ 0 := ta
  have h0 : h ≠ 0 := by
    rintro rfl
    rw [Int.zero_mul] at cr
    rcases Int.mul_eq_zero.mp cr with z | z
    · omega
    · exact hla z
  have z : ∀ k, a.length - 1 ≤ k → co (psubI (pscaleI o a) (raiseI (pscaleI h b) (a.length - b.length))) k = 0 := by
    intro k hk
    rw [co_psubI, co_pscaleI, co_raiseI, if_neg (by omega), co_pscaleI]
    by_cases e : k = a.length - 1
    · subst e
      rw [show a.length - 1 - (a.length - b.length) = b.length - 1 by omega, co_last ha, co_last hb]
      omega
    · rw [co_ge (a := a) (by omega), co_ge (a := b) (by omega)]
      omega
  refine ⟨cutI_trim _, ?_, op, ?_, fun t => ?_, ?_, fun n m bn bm => ?_⟩
  · have e : raiseI [h] (a.length - b.length) ≠ [] := by unfold raiseI; simp
    unfold Trim
    rw [← co_last e, co_raiseI]
    have el : (raiseI [h] (a.length - b.length)).length = a.length - b.length + 1 := by unfold raiseI; simp
    rw [el, if_neg (by omega), show a.length - b.length + 1 - 1 - (a.length - b.length) = 0 by omega]
    exact h0
  · have := len_of_co (cutI_trim _) z
    have la := List.length_pos_iff.mpr ha
    unfold psubI at this ⊢
    omega
  · rw [ev_psubI, ev_pscaleI, ev_raiseI, ev_raiseI, ev_pscaleI]
    show o * ev a t = t ^ (a.length - b.length) * (h + t * 0) * ev b t + _
    generalize t ^ (a.length - b.length) = u
    grind
  · unfold raiseI
    simp
    omega
  · have b1 : o.natAbs < 2 ^ m := Nat.lt_of_le_of_lt bo (by rw [← co_last hb]; exact bm _)
    have b2 : h.natAbs < 2 ^ n := Nat.lt_of_le_of_lt bh (by rw [← co_last ha]; exact bn _)
    refine ⟨?_, ?_, b1⟩
    · unfold psubI pscaleI
      exact (((bn.scale b1 (Nat.le_refl _)).cut).addL (((bm.scale b2 (Nat.le_of_eq (Nat.add_comm m n))).cut.raise).neg) (Nat.le_refl _)).cut
    · refine Bits.raise (fun k => ?_)
      cases k with
      | zero => exact b2
      | succ k => rw [co_succ, co_nil]; exact two_pos n
theorem head_4 {EX : EXK} {S : Sto} {Q : DK} {a b : List Int} {o h part : Int} (hb : b ≠ []) (ta : Trim a) (tb : Trim b) (hl : b.length ≤ a.length) (ha : a.length ≤ 900) (bits : ∃ n m, Bits n a ∧ Bits m b ∧ n + m ≤ 100000000)
    (op : 0 < o) (cr : o * a.getLastD 1 = h * b.getLastD 1) (bo : o.natAbs ≤ (b.getLastD 1).natAbs) (bh : h.natAbs ≤ (a.getLastD 1).natAbs) (q : ∀ r o h, HeadOk a b r o h → Q (.tup [PT r, .int o, PT h]) S) {o5 : Option D} :
    t_without_head_4 EX (bodyEnds Q) [some (PT a), some (PT b), some (.int part), some (.int o), some (.int h), o5] S := by
  have hk := head_ok hb ta tb hl op cr bo bh
  obtain ⟨n, m, bn, bm, hnm⟩ := bits
  have hae : a ≠ [] := by rintro rfl; simp at hl; exact hb hl
  have b1 : o.natAbs < 2 ^ m := Nat.lt_of_le_of_lt bo (by rw [← co_last hb]; exact bm _)
  have b2 : h.natAbs < 2 ^ n := Nat.lt_of_le_of_lt bh (by rw [← co_last hae]; exact bn _)
  have l1 := pscaleI_len o a
  have l2 := pscaleI_len h b
  unfold t_without_head_4
  walk_at "dl"
  simp only [List.length_map]
  have en : ((a.length : Int) - (b.length : Int)).toNat = a.length - b.length := by omega
  refine ⟨by omega, fun x hx => mul_ok (bn.mem hx) b1 hnm, by omega, fun y hy => mul_ok (bm.mem hy) b2 (by omega), by omega, by omega, by omega, by omega, ?_, sz1, [h], _, rfl, by omega, by omega, by simp, ?_⟩
  · have := raiseI_len (pscaleI h b) ((a.length : Int) - (b.length : Int)).toNat
    omega
  · rw [en]
    exact ⟨sz3, S, Sub.refl S, q _ _ _ hk⟩
theorem sem_without_head : ∀ ds S Q E, sp_head ds S Q E → t_without_head (bodyEX E) (bodyEnds Q) (dstart ["one", "other", "part", "often", "head", "power"] ds) S := by
  rintro ds S Q E ⟨a, b, rfl, hb, ta, tb, hl, ha, bits, q⟩
  show t_without_head (bodyEX E) (bodyEnds Q) [some (PT a), some (PT b), none, none, none, none] S
  have hae : a ≠ [] := by rintro rfl; simp at hl; exact hb hl
  have tb0 : b.getLastD 1 ≠ 0 := tb
  have hg := gcdI_pos (a := a.getLastD 1) tb0
  have e1 := fdiv_exact (x := b.getLastD 1) (w := gcdI (a.getLastD 1) (b.getLastD 1)) (by omega) (gcdI_dvd_right _ _)
  have e2 := fdiv_exact (x := a.getLastD 1) (w := gcdI (a.getLastD 1) (b.getLastD 1)) (by omega) (gcdI_dvd_left _ _)
  have n1 := natAbs_le_mul (p := (b.getLastD 1).fdiv (gcdI (a.getLastD 1) (b.getLastD 1))) (g := gcdI (a.getLastD 1) (b.getLastD 1)) (by omega)
  have n2 := natAbs_le_mul (p := (a.getLastD 1).fdiv (gcdI (a.getLastD 1) (b.getLastD 1))) (g := gcdI (a.getLastD 1) (b.getLastD 1)) (by omega)
  unfold t_without_head
  walk_at "dl"
  rw [ix_lastI hae, ix_lastI hb]
  walk_at "dl"
  generalize gcdI (a.getLastD 1) (b.getLastD 1) = g at *
  generalize hx : (b.getLastD 1).fdiv g = x at *
  generalize hy : (a.getLastD 1).fdiv g = y at *
  have cr : x * a.getLastD 1 = y * b.getLastD 1 := by
    conv => lhs; rw [← e2]
    conv => rhs; rw [← e1]
    grind
  have x0 : x ≠ 0 := by
    rintro rfl
    rw [Int.zero_mul] at e1
    exact tb0 e1.symm
  rw [e1] at n1
  rw [e2] at n2
  refine ⟨by omega, by omega, ?_⟩
  split
  · exact head_4 hb ta tb hl ha bits (by omega) (by rw [Int.neg_mul, Int.neg_mul, cr]) (by omega) (by omega) q
  · exact head_4 hb ta tb hl ha bits (by omega) cr n1 n2 q
theorem prod_loop {EX : EXK} {T : DEnds} {a b : List Int} {p : Addr} {S0 : Sto} {N : Nat} (hN : a.length + b.length ≤ N + 1) (ha : a.length ≤ 1000) (hb : b.length ≤ 1000) (hm : ∀ x ∈ a, ∀ y ∈ b, IntMulOk x y) {o3 o4 : Option D}
    (fin : ∀ (f : List Int) o3 o4, f.length = N → (∀ t, ev f t = ev a t * ev b t) → T.nx [some (PT a), some (PT b), some (.ref p), o3, o4] (sup S0 p (.lst (f.map D.int)))) :
    sForIn (fun _ => True) (dName 3) (sFor (iRange1 (aCons (eB oLen (aCons (eVar 1) aNil)) aNil)) (dName 4) (sAugS (eVar 2) (eBin oAdd (eVar 3) (eVar 4)) (eBin oMul (eBin oIx (eVar 0) (eVar 3)) (eBin oIx (eVar 1) (eVar 4))) oIadd)) (irng 0 a.length) EX T
      [some (PT a), some (PT b), some (.ref p), o3, o4] (sup S0 p (.lst ((List.replicate N 0).map D.int))) := by
  refine for_range (fun i δ S => ∃ (f : List Int) (o3 o4 : Option D), f.length = N ∧ (∀ t, ev f t = ev (a.take i) t * ev b t) ∧ δ = [some (PT a), some (PT b), some (.ref p), o3, o4] ∧ S = sup S0 p (.lst (f.map D.int))) ?_ ?_
    ⟨List.replicate N 0, o3, o4, by simp, fun t => by rw [ev_zeros]; show (0 : Int) = ev [] t * _; simp [ev], rfl, rfl⟩
  · rintro i δ S T' hi ⟨f, o3, o4, hf, he, rfl, rfl⟩ nx ct rt bk
    show sFor _ _ _ EX T' [some (PT a), some (PT b), some (.ref p), some (.int (i : Int)), o4] _
    simp only [sFor, iRange1, aCons, aNil, eB, eVar, List.getElem?_cons_zero, List.getElem?_cons_succ, oLen_t, List.length_map, Int.toNat_natCast]
    refine ⟨by omega, by omega, ?_⟩
    refine for_range (fun j δ S => ∃ (f : List Int) (o4 : Option D), f.length = N ∧ (∀ t, ev f t = ev (a.take i) t * ev b t + co a i * t ^ i * ev (b.take j) t) ∧ δ = [some (PT a), some (PT b), some (.ref p), some (.int (i : Int)), o4] ∧ S = sup S0 p (.lst (f.map D.int))) ?_ ?_
      ⟨f, o4, hf, fun t => by rw [he t]; show _ = _ + _ * ev [] t; simp [ev], rfl, rfl⟩
    · rintro j δ S T2 hj ⟨f, o4, hf, he, rfl, rfl⟩ nx2 ct2 rt2 bk2
      have hai : co a i ∈ a := by
        have : co a i = a[i] := by simp [co, hi]
        rw [this]; exact List.getElem_mem hi
      have hbj : co b j ∈ b := by
        have : co b j = b[j] := by simp [co, hj]
        rw [this]; exact List.getElem_mem hj
      refine augS_at (p := p) (f := f) (k := i + j) (v := co a i * co b j) (fun S' Q h => h) (fun S' Q h => ?_) (fun S' Q h => ?_) sup_same (by omega) ?_
      · show Q (.int ((i : Int) + (j : Int))) S'
        rw [← Int.natCast_add]
        exact h
      · show (match ix (a.map D.int) (i : Int) with | some d => _ | none => False)
        rw [cut_at hi]
        show (match ix (b.map D.int) (j : Int) with | some d => _ | none => False)
        rw [cut_at hj]
        exact ⟨hm _ hai _ hbj, h⟩
      · rw [sup_sup]
        refine nx2 _ _ ⟨_, _, by rw [List.length_set]; exact hf, fun t => ?_, rfl, rfl⟩
        rw [ev_set t _ f _ (by omega), he t, ev_take_succ, Int.pow_add]
        grind
    · rintro δ S ⟨f, o4, hf, he, rfl, rfl⟩
      refine nx _ _ ⟨f, _, _, hf, fun t => ?_, rfl, rfl⟩
      rw [he t, List.take_length, ev_take_succ]
      grind
  · rintro δ S ⟨f, o3, o4, hf, he, rfl, rfl⟩
    refine fin f o3 o4 hf fun t => ?_
    rw [he t, List.take_length]
theorem sem__law_product : ∀ ds S Q E, sp_lproduct ds S Q E → t__law_product (bodyEX E) (bodyEnds Q) (dstart ["_law_one", "_law_other", "_law_found", "_law_k", "_law_j"] ds) S := by
  rintro ds S Q E ⟨a, b, rfl, ha, hb, hm, h⟩
  show t__law_product (bodyEX E) (bodyEnds Q) [some (PT a), some (PT b), none, none, none] S
  unfold t__law_product
  simp only [sSeq, sSet, eBin, eLst, eC, aCons, aNil, eB, eVar, List.getElem?_cons_zero, List.getElem?_cons_succ, oLen_t, oAdd_ii, List.length_map, List.length_cons, List.length_nil]
  refine ⟨sz1, fun p np => ?_⟩
  refine ⟨[.int 0], sup_same, by omega, by omega, ?_, fun q nq => ?_⟩
  · simp only [List.length_cons, List.length_nil]
    exact size_le (by omega)
  have e : (List.replicate ((a.length : Int) + (b.length : Int)).toNat [D.int 0]).flatten = (List.replicate (a.length + b.length) (0 : Int)).map D.int := by
    rw [show ((a.length : Int) + (b.length : Int)).toNat = a.length + b.length by omega]
    exact flat_zeros _
  rw [e]
  simp only [sFor, iRange1, aCons, aNil, eB, eVar, List.set_cons_zero, List.set_cons_succ, List.getElem?_cons_zero, List.getElem?_cons_succ, oLen_t, List.length_map, Int.toNat_natCast]
  refine ⟨by omega, by omega, ?_⟩
  refine prod_loop (N := a.length + b.length) (by omega) ha hb hm fun f o3 o4 hf he => ?_
  have hpq : p ≠ q := by rintro rfl; rw [sup_same] at nq; cases nq
  have nqS : S q = none := by rw [sup_ne hpq.symm] at nq; exact nq
  walk_at "dl"
  refine call_cutL (a := f) rdAt_sup ⟨S, ((Sub.new np).trans (Sub.new nq)), ?_⟩
  have e2 : cutI f = pmul a b := cutI_ev fun t => by rw [he t, ev_mulL]
  rw [e2]
  exact h
theorem ix_sup {S : Sto} {p : Addr} {a : List Int} {k : Nat} {Q : DK} (hp : rdAt S p = some (a.map D.int)) (hk : k < a.length) (h : Q (.int (co a k)) S) : oIx (.ref p) (.int (k : Int)) S Q := by
  rw [oIx_r, hp]
  show (match ix (a.map D.int) (k : Int) with | some d => Q d S | none => False)
  rw [cut_at hk]
  exact h
/-- list(x) + [0] * (many - len(x)) -/
theorem pad_list {EX : EXK} {δ : DSt} {S : Sto} {Q : DK} {a : List Int} {n : Nat} {x m : DE} (hx : ∀ S' Q, Q (PT a) S' → x EX δ S' Q) (hm : ∀ S' Q, Q (.int (n : Int)) S' → m EX δ S' Q) (hl : a.length ≤ n) (hn : n ≤ 10000)
    (h : ∀ p S', Sub S S' → S p = none → S' p = some (.lst ((a ++ List.replicate (n - a.length) 0).map D.int)) → Q (.ref p) S') :
    eBin oAdd (eB oList (aCons x aNil)) (eBin oMul (eLst (aCons (eC (.int 0)) aNil)) (eBin oSub m (eB oLen (aCons x aNil)))) EX δ S Q := by
  refine hx _ _ ?_
  show ∀ p, S p = none → _
  intro p np
  show ([D.int 0].length ≤ sizeLine ∧ ∀ q, sup S p (.lst (a.map D.int)) q = none → _)
  refine ⟨sz1, fun q nq => ?_⟩
  refine hm _ _ (hx _ _ ?_)
  simp only [aNil, oLen_t, onI_ii, List.length_map]
  refine ⟨[.int 0], sup_same, by omega, by omega, size_le (by simp; omega), fun r nr => ?_⟩
  have hpq : p ≠ q := by rintro rfl; rw [sup_same] at nq; cases nq
  have hqr : q ≠ r := by rintro rfl; rw [sup_same] at nr; cases nr
  rw [sup_ne hqr.symm] at nr
  have hpr : p ≠ r := by rintro rfl; rw [sup_same] at nr; cases nr
  refine ⟨a.map D.int, _, by rw [sup_ne hpr, sup_ne hpq]; exact sup_same, sup_same, ?_, fun s ns => ?_⟩
  · rw [show ((n : Int) - (a.length : Int)).toNat = n - a.length by omega, flat_zeros, List.length_map, List.length_map, List.length_replicate]
    exact size_le (by omega)
  · rw [show ((n : Int) - (a.length : Int)).toNat = n - a.length by omega, flat_zeros] at ns ⊢
    have s3 := ((Sub.new np (o := .lst (a.map D.int))).trans (Sub.new nq (o := .lst [.int 0]))).trans (Sub.new (by rw [sup_ne hqr.symm]; exact nr) (o := .lst ((List.replicate (n - a.length) (0 : Int)).map D.int)))
    refine h s _ (s3.trans (Sub.new ns)) (s3.free ns) ?_
    rw [sup_same, List.map_append]
theorem co_pad (a : List Int) (m k : Nat) : co (a ++ List.replicate m 0) k = co a k := by
  unfold co List.getD
  by_cases h : k < a.length
  · rw [List.getElem?_append_left h]
  · rw [List.getElem?_append_right (by omega), List.getElem?_eq_none (l := a) (by omega)]
    by_cases h2 : k - a.length < m
    · simp [h2]
    · rw [List.getElem?_eq_none (by simpa using h2)]
theorem sem__law_sum : ∀ ds S Q E, sp_lsum ds S Q E → t__law_sum (bodyEX E) (bodyEnds Q) (dstart ["_law_one", "_law_other", "_law_often", "_law_many_here", "_law_left", "_law_right_here", "_law_k"] ds) S := by
  rintro ds S Q E ⟨a, b, c, rfl, ha, hb, hm, h⟩
  show t__law_sum (bodyEX E) (bodyEnds Q) [some (PT a), some (PT b), some (.int c), none, none, none, none] S
  unfold t__law_sum
  simp only [sSeq, sSet, eB, aCons, aNil, eVar, List.getElem?_cons_zero, List.getElem?_cons_succ, oMax, oLen_t, List.length_map, o2I_ii, max_eq, List.set_cons_zero, List.set_cons_succ]
  generalize hmx : max a.length b.length = n
  refine pad_list (n := n) (fun _ _ h => h) (fun _ _ h => h) (by omega) (by omega) fun p S1 s1 np e1 => ?_
  refine pad_list (n := n) (fun _ _ h => h) (fun _ _ h => h) (by omega) (by omega) fun q S2 s2 nq e2 => ?_
  have e1' := s2 _ _ e1
  simp only [sRet, eCall, eLc, iRange1, aCons, aNil, eVar, List.getElem?_cons_zero, List.getElem?_cons_succ, List.append_nil, Int.toNat_natCast]
  refine ⟨by omega, by omega, fun r nr => ?_⟩
  have hpr : p ≠ r := by rintro rfl; rw [e1'] at nr; cases nr
  have hqr : q ≠ r := by rintro rfl; rw [e2] at nr; cases nr
  rw [irng_map]
  refine lc_ints (f := fun k => (fun j => co a j + c * co b j) k.toNat) _ [] (fun _ => trivial) (by simp; omega) (fun x hx acc' Q' q' => ?_) ?_
  · obtain ⟨i, hi, rfl⟩ := List.mem_map.mp hx
    have hi' := List.mem_range.mp hi
    simp only [dwipe, eBin, eVar, List.set_cons_zero, List.set_cons_succ, List.getElem?_cons_zero, List.getElem?_cons_succ]
    refine ix_sup (a := a ++ List.replicate (n - a.length) 0) (rdAt_of (lstAt_iff.mpr (by rw [sup_ne hpr]; exact e1'))) (by simp; omega) ?_
    refine ix_sup (a := b ++ List.replicate (n - b.length) 0) (rdAt_of (lstAt_iff.mpr (by rw [sup_ne hqr]; exact e2))) (by simp; omega) ?_
    rw [co_pad, co_pad]
    refine ⟨?_, q'⟩
    by_cases z : co b i = 0
    · rw [z]; exact mulok_right (by decide) (by decide)
    · exact hm _ (mem_of_co z)
  · refine call_cutL (rdAt_sup) ⟨S, (s1.trans s2).trans (Sub.new nr), ?_⟩
    rw [List.nil_append, lc_cast (f := fun j => co a j + c * co b j) (g := fun _ => 0) (addL a (scaleL c b)) (fun k _ => by show co a k + c * co b k = _; unfold scaleL; rw [co_addL, co_map (Int.mul_zero c)]) (fun k hk => co_ge (by unfold scaleL; rw [addL_len, List.length_map]; omega))]
    exact h
/-- what stands while a rest is made: s steps done -/
structure Stage (a b r : List Int) (s : Nat) : Prop where
  tr : Trim r
  st : s ≤ a.length + 1 - b.length
  le : s + r.length ≤ a.length
  bits : ∀ n m, Bits n a → Bits m b → Bits (n + s * (m + 1)) r
theorem Stage.next {a b r r' h : List Int} {s : Nat} {o : Int} (g : Stage a b r s) (hb : b ≠ []) (hl : b.length ≤ r.length) (k : HeadOk r b r' o h) : Stage a b r' (s + 1) := by
  have lb := List.length_pos_iff.mpr hb
  have h1 := g.le
  have h2 := k.lt
  refine ⟨k.tr, by omega, by omega, fun n m bn bm => ?_⟩
  have := (k.bits _ m (g.bits n m bn bm) bm).1
  refine this.mono ?_
  rw [Nat.add_mul, Nat.one_mul]
  omega
theorem Stage.room {a b r : List Int} {s : Nat} (g : Stage a b r s) (hl : b.length ≤ r.length) (hb : b ≠ []) {n m : Nat} (h : n + (a.length + 1 - b.length + 1) * (m + 1) ≤ 100000000) : n + s * (m + 1) + m ≤ 100000000 := by
  have h1 := Nat.mul_le_mul_right (m + 1) (show s + 1 ≤ a.length + 1 - b.length + 1 by have := g.st; omega)
  rw [Nat.add_mul, Nat.one_mul] at h1
  omega
theorem sem_rest_by : ∀ ds S Q E, sp_restBy ds S Q E → (sSeq (sWhile (tVal (eBin oGe (eB oLen (aCons (eVar 0) aNil)) (eB oLen (aCons (eVar 1) aNil)))) (sSet 0 (eBin oIx (eCall sp_head [] (aCons (eVar 0) (aCons (eVar 1) aNil))) (eC (.int 0)))))
    (sRet (eVar 0))) (bodyEX E) (bodyEnds Q) (dstart ["one", "other"] ds) S := by
  rintro ds S Q E ⟨a, b, rfl, hb, ta, tb, hl, ⟨n, m, bn, bm, hnm⟩, q⟩
  show (sSeq _ _) (bodyEX E) (bodyEnds Q) [some (PT a), some (PT b)] S
  simp only [sSeq, sRet, eVar]
  refine ⟨fun w δ S' => ∃ (r : List Int) (s : Nat), Stage a b r s ∧ (∃ (k : Int) (q : List Int), 0 < k ∧ ∀ t, k * ev a t = ev q t * ev b t + ev r t) ∧ δ = [some (PT r), some (PT b)] ∧ S' = S ∧ w = r.length,
    ⟨_, a, 0, ⟨ta, Nat.zero_le _, by omega, fun n m bn _ => bn.mono (Nat.le_add_right _ _)⟩, ⟨1, [], by decide, fun t => by show 1 * _ = 0 * _ + _; omega⟩, rfl, rfl, rfl⟩, ?_⟩
  rintro w δ S' ⟨r, s, g, ⟨k, qq, hk, he⟩, rfl, rfl, rfl⟩
  walk_at "dl"
  simp only [List.length_map]
  by_cases c : (b.length : Int) ≤ r.length
  · have c' : b.length ≤ r.length := by omega
    rw [if_pos (by omega)]
    have hr := g.le
    refine ⟨hb, g.tr, tb, c', by omega, ⟨_, m, g.bits n m bn bm, bm, g.room c' hb hnm⟩, fun r' o h ok => ?_⟩
    refine ⟨r'.length, ok.lt, r', s + 1, g.next hb c' ok, ⟨o * k, addL (scaleL o qq) h, Int.mul_pos ok.op hk, fun t => ?_⟩, rfl, rfl⟩
    have e1 := ok.eq t
    have e2 := he t
    unfold scaleL
    rw [ev_addL, ev_scale]
    grind
  · rw [if_neg (by omega)]
    refine ⟨S', Sub.refl S', q r ⟨g.tr, by omega, by have := g.le; omega, ⟨k, qq, hk, he⟩, fun n m bn bm => (g.bits n m bn bm).mono ?_⟩⟩
    exact Nat.add_le_add_left (Nat.mul_le_mul_right _ g.st) _
theorem long_3 {C : Cs} {EX : EXK} {S : Sto} {Q : DK} {a b q r : List Int} {o : Int} {o5 o6 o7 : Option D} (op : 0 < o) (tq : Trim q) (tr : Trim r) (lt : r.length < b.length) (ql : q.length ≤ a.length) (rl : r.length ≤ a.length) (ha : a.length ≤ 900) (eq : ∀ t, o * ev a t = ev q t * ev b t + ev r t)
    (bits : ∀ n m, Bits n a → Bits m b → Bits (n + (a.length + 1 - b.length) * (m + 1)) q ∧ Bits (n + (a.length + 1 - b.length) * (m + 1)) r ∧ o.natAbs < 2 ^ (n + (a.length + 1 - b.length) * (m + 1) + 1))
    (h : ∀ o q r, LongOk a b o q r → Q (.tup [.int o, PT q, PT r]) S) :
    t_long_division_3 C EX (bodyEnds Q) [some (PT a), some (PT b), some (.int o), some (PT q), some (PT r), o5, o6, o7] S := by
  have hg : 0 < gcdI o (gcdI (contI 0 q) (contI 0 r)) := by
    have h0 := gcdI_nonneg o (gcdI (contI 0 q) (contI 0 r))
    have h1 := gcdI_dvd_left o (gcdI (contI 0 q) (contI 0 r))
    by_cases e : gcdI o (gcdI (contI 0 q) (contI 0 r)) = 0
    · rw [e] at h1
      have := Int.zero_dvd.mp h1
      omega
    · omega
  have d0 := gcdI_dvd_left o (gcdI (contI 0 q) (contI 0 r))
  have d1 : ∀ x ∈ q, gcdI o (gcdI (contI 0 q) (contI 0 r)) ∣ x := fun x hx => Int.dvd_trans (gcdI_dvd_right _ _) (Int.dvd_trans (gcdI_dvd_left _ _) ((contI_dvd q 0).2 x hx))
  have d2 : ∀ x ∈ r, gcdI o (gcdI (contI 0 q) (contI 0 r)) ∣ x := fun x hx => Int.dvd_trans (gcdI_dvd_right _ _) (Int.dvd_trans (gcdI_dvd_right _ _) ((contI_dvd r 0).2 x hx))
  have big : ∀ k, k ∣ o → (∀ x ∈ q, k ∣ x) → (∀ x ∈ r, k ∣ x) → k ∣ gcdI o (gcdI (contI 0 q) (contI 0 r)) := fun k h0 h1 h2 => dvd_gcdI h0 (dvd_gcdI (dvd_contI q 0 (Int.dvd_zero _) h1) (dvd_contI r 0 (Int.dvd_zero _) h2))
  unfold t_long_division_3
  walk_at "dl"
  generalize gcdI o (gcdI (contI 0 q) (contI 0 r)) = g at *
  have g0 : g ≠ 0 := by omega
  have e0 := fdiv_exact g0 d0
  refine ⟨g0, g0, by omega, g0, by omega, sz3, S, Sub.refl S, h _ _ _ ⟨?_, partI_trim tq g0 d1, partI_trim tr g0 d2, by rw [partI_len]; exact lt, by rw [partI_len]; exact ql, fun t => ?_, ?_, fun n m bn bm => ?_⟩⟩
  · exact pos_of_mul (by rw [e0]; exact op) hg
  · apply Int.eq_of_mul_eq_mul_left g0
    have e1 := ev_partI g0 d1 t
    have e2 := ev_partI g0 d2 t
    have e3 := eq t
    rw [← e0, ← e1, ← e2] at e3
    grind
  · have n0 := contI_nonneg (partI q g ++ partI r g) (o.fdiv g) (by
      have := pos_of_mul (x := o.fdiv g) (s := g) (by rw [e0]; exact op) hg
      omega)
    obtain ⟨c1, c2⟩ := contI_dvd (partI q g ++ partI r g) (o.fdiv g)
    generalize contI (o.fdiv g) (partI q g ++ partI r g) = c at *
    have dv : ∀ (l : List Int), (∀ x ∈ l, g ∣ x) → (∀ x ∈ l, x.fdiv g ∈ partI q g ++ partI r g) → ∀ x ∈ l, c * g ∣ x := fun l hd hm x hx => by
      obtain ⟨y, hy⟩ := c2 _ (hm x hx)
      refine ⟨y, ?_⟩
      have e := fdiv_exact g0 (hd x hx)
      rw [hy] at e
      rw [← e]
      grind
    have k : c * g ∣ g := big _ (by
      obtain ⟨y, hy⟩ := c1
      refine ⟨y, ?_⟩
      rw [hy] at e0
      rw [← e0]
      grind) (dv q d1 fun x hx => List.mem_append_left _ (List.mem_map.mpr ⟨x, hx, rfl⟩)) (dv r d2 fun x hx => List.mem_append_right _ (List.mem_map.mpr ⟨x, hx, rfl⟩))
    obtain ⟨y, hy⟩ := k
    have h4 : c * y = 1 := by
      apply Int.eq_of_mul_eq_mul_right g0
      rw [Int.one_mul]
      conv => rhs; rw [hy]
      grind
    exact Int.eq_one_of_dvd_one n0 ⟨y, h4.symm⟩
  · obtain ⟨b1, b2, b3⟩ := bits n m bn bm
    refine ⟨b1.part g0 d1, b2.part g0 d2, ?_⟩
    have := natAbs_le_mul (p := o.fdiv g) g0
    rw [e0] at this
    omega
theorem pow_lt {x y : Int} {n m l : Nat} (hx : x.natAbs < 2 ^ n) (hy : y.natAbs < 2 ^ m) (h : n + m ≤ l) : (x * y).natAbs < 2 ^ l := by
  rw [Int.natAbs_mul]
  have h1 : x.natAbs * y.natAbs < 2 ^ n * 2 ^ m := Nat.mul_lt_mul'' hx hy
  rw [← Nat.pow_add] at h1
  exact Nat.lt_of_lt_of_le h1 (pow_mono h)
theorem long_2 {C : Cs} {EX : EXK} {S : Sto} {Q : DK} {a b : List Int} {o5 o6 o7 : Option D} (hb : b ≠ []) (ta : Trim a) (tb : Trim b) (ha : a.length ≤ 900) (bits : ∃ n m, Bits n a ∧ Bits m b ∧ n + (a.length + 1 - b.length + 1) * (m + 1) ≤ 100000000)
    (h : ∀ o q r, LongOk a b o q r → Q (.tup [.int o, PT q, PT r]) S) :
    t_long_division_2 C EX (bodyEnds Q) [some (PT a), some (PT b), some (.int 1), some (PT []), some (PT a), o5, o6, o7] S := by
  obtain ⟨n, m, bn, bm, hnm⟩ := bits
  unfold t_long_division_2
  simp only [sSeq]
  refine ⟨fun w δ S' => ∃ (r q : List Int) (o : Int) (s : Nat) (o5 o6 o7 : Option D), Stage a b r s ∧ 0 < o ∧ Trim q ∧ q.length ≤ a.length ∧ (∀ t, o * ev a t = ev q t * ev b t + ev r t) ∧
      (∀ n m, Bits n a → Bits m b → Bits (n + s * (m + 1)) q ∧ o.natAbs ≤ 2 ^ (s * m)) ∧ δ = [some (PT a), some (PT b), some (.int o), some (PT q), some (PT r), o5, o6, o7] ∧ S' = S ∧ w = r.length,
    ⟨_, a, [], 1, 0, o5, o6, o7, ⟨ta, Nat.zero_le _, by omega, fun n m bn _ => bn.mono (Nat.le_add_right _ _)⟩, by decide, trim_nil, Nat.zero_le _, fun t => by show 1 * _ = 0 * _ + _; omega, fun n m _ _ => ⟨Bits.nil, by rw [Nat.zero_mul]; decide⟩, rfl, rfl, rfl⟩, ?_⟩
  rintro w δ S' ⟨r, q, o, s, o5, o6, o7, g, op, tq, ql, he, bq, rfl, rfl, rfl⟩
  walk_at "dl"
  simp only [List.length_map]
  have lb := List.length_pos_iff.mpr hb
  by_cases c : (b.length : Int) ≤ r.length
  · have c' : b.length ≤ r.length := by omega
    rw [if_pos (by omega)]
    have hr := g.le
    have room := g.room c' hb hnm
    refine ⟨hb, g.tr, tb, c', by omega, ⟨_, m, g.bits n m bn bm, bm, room⟩, fun r' mo hd ok => ?_⟩
    have okb := ok.bits _ m (g.bits n m bn bm) bm
    have bq0 := bq n m bn bm
    have hl := ok.hl
    have l1 := pscaleI_len mo q
    have ol : ∀ m, o.natAbs ≤ 2 ^ (s * m) → o.natAbs < 2 ^ (s * m + 1) := fun m h => by
      rw [Nat.pow_succ]
      have := two_pos (s * m)
      omega
    have sm : s * m + 1 + m ≤ 100000000 := by
      have e : s * (m + 1) = s * m + s := by rw [Nat.mul_add, Nat.mul_one]
      have h2 := Nat.mul_le_mul_right (m + 1) (show 2 ≤ a.length + 1 - b.length + 1 by omega)
      rcases Nat.eq_zero_or_pos s with z | z
      · subst z
        rw [Nat.zero_mul]
        omega
      · omega
    refine ⟨rfl, mul_ok (ol m bq0.2) okb.2.2 sm, by omega, fun x hx => mul_ok (bq0.1.mem hx) okb.2.2 room, by omega, by omega, r'.length, ok.lt, r', _, o * mo, s + 1, _, _, _, g.next hb c' ok, Int.mul_pos op ok.op, (show Trim (paddI (pscaleI mo q) hd) from cutI_trim _), ?_, fun t => ?_, fun n m bn bm => ?_, rfl, rfl⟩
    · have := paddI_len (pscaleI mo q) hd
      omega
    · rw [ev_paddI, ev_pscaleI]
      have e1 := ok.eq t
      have e2 := he t
      grind
    · have b0 := bq n m bn bm
      have bh := ok.bits _ m (g.bits n m bn bm) bm
      have e : (s + 1) * (m + 1) = s * (m + 1) + (m + 1) := by rw [Nat.add_mul, Nat.one_mul]
      refine ⟨?_, ?_⟩
      · unfold paddI pscaleI scaleL
        exact (((b0.1.scale bh.2.2 (Nat.le_refl _)).cut).addL (bh.2.1.mono (show n + s * (m + 1) ≤ n + s * (m + 1) + m by omega)) (by rw [e]; omega)).cut
      · rw [Int.natAbs_mul, Nat.add_mul, Nat.one_mul, Nat.pow_add]
        exact Nat.mul_le_mul b0.2 (Nat.le_of_lt bh.2.2)
  · rw [if_neg (by omega)]
    have st := g.st
    refine long_3 op tq g.tr (by omega) ql (by have := g.le; omega) ha he (fun n m bn bm => ?_) h
    have hm := Nat.mul_le_mul_right (m + 1) st
    refine ⟨(bq n m bn bm).1.mono (by omega), (g.bits n m bn bm).mono (by omega), ?_⟩
    have h3 : s * m ≤ s * (m + 1) := Nat.mul_le_mul_left s (by omega)
    have h4 := (bq n m bn bm).2
    have h5 := pow_mono (show s * m ≤ n + (a.length + 1 - b.length) * (m + 1) by omega)
    rw [Nat.pow_succ]
    have := two_pos (n + (a.length + 1 - b.length) * (m + 1))
    omega
theorem sem_long_division {C : Cs} : ∀ ds S Q E, sp_longdiv C ds S Q E → t_long_division C (bodyEX E) (bodyEnds Q) (dstart ["one", "other", "often", "quotient", "rest", "more", "head", "part"] ds) S := by
  rintro ds S Q E ⟨a, b, rfl, h0, h1⟩
  show t_long_division C (bodyEX E) (bodyEnds Q) [some (PT a), some (PT b), none, none, none, none, none, none] S
  unfold t_long_division
  walk_at "dl"
  refine ⟨sz0, ?_⟩
  by_cases e : b = []
  · rw [if_pos e]
    exact ⟨S, Sub.refl S, h0 e⟩
  · rw [if_neg e]
    obtain ⟨ta, tb, ha, bits, h⟩ := h1 e
    exact ⟨sz0, long_2 e ta tb ha bits h⟩
end DL
end L2

/-! PD: dividing polynomials over the rational numbers; common parts. Plain Lean. -/
namespace L2
namespace DL
open PySem PySem.Spec PyProof PyProof.Rows
/-- b divides a, but for a number -/
def Dv (b a : List Int) : Prop := ∃ (k : Int) (q : List Int), k ≠ 0 ∧ ∀ t, k * ev a t = ev q t * ev b t
theorem Dv.refl (a : List Int) : Dv a a := ⟨1, [1], by decide, fun t => by show _ = (1 + t * 0) * _; grind⟩
theorem Dv.trans {a b c : List Int} (h1 : Dv a b) (h2 : Dv b c) : Dv a c := by
  obtain ⟨k1, q1, n1, e1⟩ := h1
  obtain ⟨k2, q2, n2, e2⟩ := h2
  refine ⟨k1 * k2, mulL q1 q2, Int.mul_ne_zero n1 n2, fun t => ?_⟩
  have a1 := e1 t
  have a2 := e2 t
  rw [ev_mulL]
  grind
theorem Dv.nil (b : List Int) : Dv b [] := ⟨1, [], by decide, fun t => by show 1 * 0 = 0 * _; grind⟩
/-- d divides b and r, and k a is q b + r: then it divides a -/
theorem Dv.comb {d a b r q : List Int} {k : Int} (hk : k ≠ 0) (e : ∀ t, k * ev a t = ev q t * ev b t + ev r t) (h1 : Dv d b) (h2 : Dv d r) : Dv d a := by
  obtain ⟨k1, q1, n1, e1⟩ := h1
  obtain ⟨k2, q2, n2, e2⟩ := h2
  refine ⟨k1 * k2 * k, addL (scaleL k2 (mulL q q1)) (scaleL k1 q2), Int.mul_ne_zero (Int.mul_ne_zero n1 n2) hk, fun t => ?_⟩
  have a0 := e t
  have a1 := e1 t
  have a2 := e2 t
  unfold scaleL
  rw [ev_addL, ev_scale, ev_scale, ev_mulL]
  grind
/-- d divides a and b: then r -/
theorem Dv.rest {d a b r q : List Int} {k : Int} (e : ∀ t, k * ev a t = ev q t * ev b t + ev r t) (h1 : Dv d a) (h2 : Dv d b) : Dv d r := by
  obtain ⟨k1, q1, n1, e1⟩ := h1
  obtain ⟨k2, q2, n2, e2⟩ := h2
  refine ⟨k1 * k2, addL (scaleL (k2 * k) q1) (scaleL (-k1) (mulL q q2)), Int.mul_ne_zero n1 n2, fun t => ?_⟩
  have a0 := e t
  have a1 := e1 t
  have a2 := e2 t
  unfold scaleL
  rw [ev_addL, ev_scale, ev_scale, ev_mulL]
  grind
theorem pmul_ne {a b : List Int} (ha : Trim a) (hb : Trim b) (h1 : a ≠ []) (h2 : b ≠ []) : pmul a b ≠ [] := by
  intro z
  have := pmul_len ha hb h1 h2
  rw [z] at this
  have l1 := List.length_pos_iff.mpr h1
  have l2 := List.length_pos_iff.mpr h2
  simp at this
  omega
theorem nil_of_ev {a : List Int} (ha : Trim a) (h : ∀ t, ev a t = 0) : a = [] := ev_ext ha trim_nil fun t => by rw [h t]; rfl
theorem scaleL_trim {c : Int} {a : List Int} (hc : c ≠ 0) (ha : Trim a) : Trim (scaleL c a) := by
  by_cases e : a = []
  · subst e; exact trim_nil
  · have e2 : scaleL c a ≠ [] := by unfold scaleL; simpa using e
    unfold Trim
    rw [← co_last e2]
    unfold scaleL
    rw [co_map (Int.mul_zero c), List.length_map, co_last e]
    exact Int.mul_ne_zero hc ha
theorem scaleL_len (c : Int) (a : List Int) : (scaleL c a).length = a.length := List.length_map _
/-- a divisor of what is not 0 is no longer -/
theorem Dv.len {a b : List Int} (h : Dv b a) (ta : Trim a) (tb : Trim b) (ha : a ≠ []) : b ≠ [] ∧ b.length ≤ a.length := by
  obtain ⟨k, q, hk, e⟩ := h
  have hq : ∀ t, k * ev a t = ev (cutI q) t * ev b t := fun t => by rw [ev_cutI]; exact e t
  have b0 : b ≠ [] := by
    rintro rfl
    refine ha (nil_of_ev ta fun t => ?_)
    have := hq t
    rw [show ev [] t = 0 from rfl, Int.mul_zero] at this
    exact (Int.mul_eq_zero.mp this).resolve_left hk
  have q0 : cutI q ≠ [] := by
    intro z
    refine ha (nil_of_ev ta fun t => ?_)
    have := hq t
    rw [z, show ev [] t = 0 from rfl, Int.zero_mul] at this
    exact (Int.mul_eq_zero.mp this).resolve_left hk
  refine ⟨b0, ?_⟩
  have e1 : scaleL k a = pmul (cutI q) b := ev_ext (scaleL_trim hk ta) (pmul_trim _ _) fun t => by
    rw [ev_pmul]
    unfold scaleL
    rw [ev_scale]
    exact hq t
  have l := pmul_len (cutI_trim q) tb q0 b0
  rw [← e1, scaleL_len] at l
  have := List.length_pos_iff.mpr q0
  omega
/-- what is divided by something longer is 0 -/
theorem Dv.short {a b : List Int} (h : Dv b a) (ta : Trim a) (tb : Trim b) (hl : a.length < b.length) : a = [] := by
  by_cases e : a = []
  · exact e
  · have := (h.len ta tb e).2
    omega
theorem contI_scale (c : Int) : ∀ (a : List Int) (g : Int), contI (c * g) (a.map fun x => c * x) = (c.natAbs : Int) * contI g a ∨ a = []
  | [], g => .inr rfl
  | [x], g => .inl (by
    show gcdI (c * g) (c * x) = _ * gcdI g x
    unfold gcdI
    rw [Int.gcd_mul_left]
    push_cast
    rfl)
  | x :: y :: ys, g => .inl (by
    have e1 : gcdI (c * g) (c * x) = (c.natAbs : Int) * gcdI g x := by
      unfold gcdI
      rw [Int.gcd_mul_left]
      push_cast
      rfl
    show contI (gcdI (c * g) (c * x)) ((y :: ys).map fun x => c * x) = _ * contI (gcdI g x) (y :: ys)
    rw [e1]
    have e2 : ((y :: ys).map fun x => c * x) = ((c * y) :: ys.map fun x => c * x) := rfl
    have ab : ∀ (l : List Int) (u : Int), contI ((c.natAbs : Int) * u) (l.map fun x => c * x) = (c.natAbs : Int) * contI u l := by
      intro l
      induction l with
      | nil => intro u; rfl
      | cons z zs ih =>
        intro u
        show contI (gcdI ((c.natAbs : Int) * u) (c * z)) (zs.map fun x => c * x) = _ * contI (gcdI u z) zs
        have e3 : gcdI ((c.natAbs : Int) * u) (c * z) = (c.natAbs : Int) * gcdI u z := by
          have : gcdI ((c.natAbs : Int) * u) (c * z) = gcdI (c * u) (c * z) := by
            unfold gcdI Int.gcd
            rw [Int.natAbs_mul, Int.natAbs_mul, Int.natAbs_mul, Int.natAbs_natCast]
          rw [this]
          unfold gcdI
          rw [Int.gcd_mul_left]
          push_cast
          rfl
        rw [e3]
        exact ih _
    exact ab _ _)
theorem contI_scaleL {c : Int} {a : List Int} (h : a ≠ []) : contI 0 (scaleL c a) = (c.natAbs : Int) * contI 0 a := by
  have := (contI_scale c a 0).resolve_right h
  rw [Int.mul_zero] at this
  exact this
theorem last_scaleL {c : Int} {a : List Int} (h : a ≠ []) : (scaleL c a).getLastD 1 = c * a.getLastD 1 := by
  have e2 : scaleL c a ≠ [] := by unfold scaleL; simpa using h
  rw [← co_last e2, ← co_last h, scaleL_len]
  unfold scaleL
  rw [co_map (Int.mul_zero c)]
/-- plain ones that are the same but for numbers are the same -/
theorem plain_same {a b : List Int} (pa : Plain a) (pb : Plain b) {k c : Int} (hk : k ≠ 0) (hc : c ≠ 0) (e : ∀ t, k * ev a t = c * ev b t) : a = b := by
  have e1 : scaleL k a = scaleL c b := ev_ext (scaleL_trim hk pa.trim) (scaleL_trim hc pb.trim) fun t => by
    unfold scaleL
    rw [ev_scale, ev_scale]
    exact e t
  have hl : a.length = b.length := by rw [← scaleL_len k a, e1, scaleL_len]
  by_cases ha : a = []
  · subst ha
    exact (List.length_eq_zero_iff.mp hl.symm).symm
  · have hb : b ≠ [] := by rintro rfl; exact ha (List.length_eq_zero_iff.mp hl)
    have c1 := contI_scaleL (c := k) ha
    have c2 := contI_scaleL (c := c) hb
    rw [e1, c2, pa.one ha, pb.one hb] at c1
    have l1 := last_scaleL (c := k) ha
    have l2 := last_scaleL (c := c) hb
    rw [e1, l2] at l1
    have p1 := pa.pos ha
    have p2 := pb.pos hb
    have hkc : k = c := by
      have ab : c.natAbs = k.natAbs := by omega
      rcases Int.natAbs_eq_natAbs_iff.mp ab with z | z
      · exact z.symm
      · subst z
        exfalso
        rcases Int.lt_or_gt_of_ne hk with h | h
        · have h1 := Int.mul_pos (show 0 < -k by omega) p1
          have h2 := Int.mul_pos (show 0 < -k by omega) p2
          rw [Int.neg_mul] at h1 h2
          rw [Int.neg_mul] at l1
          omega
        · have h1 := Int.mul_pos h p1
          have h2 := Int.mul_pos h p2
          rw [Int.neg_mul] at l1
          omega
    subst hkc
    refine ev_ext pa.trim pb.trim fun t => ?_
    exact Int.eq_of_mul_eq_mul_left hk (e t)
theorem dv_antisymm {a b : List Int} (pa : Plain a) (pb : Plain b) (h1 : Dv a b) (h2 : Dv b a) : a = b := by
  by_cases ha : a = []
  · subst ha
    by_cases hb : b = []
    · exact hb.symm
    · exact absurd rfl (h1.len pb.trim pa.trim hb).1
  · have hb := (h2.len pa.trim pb.trim ha).1
    have l1 := (h2.len pa.trim pb.trim ha).2
    have l2 := (h1.len pb.trim pa.trim hb).2
    obtain ⟨k, q, hk, e⟩ := h2
    have e' : ∀ t, k * ev a t = ev (cutI q) t * ev b t := fun t => by rw [ev_cutI]; exact e t
    have q0 : cutI q ≠ [] := by
      intro z
      refine ha (nil_of_ev pa.trim fun t => ?_)
      have := e' t
      rw [z, show ev [] t = 0 from rfl, Int.zero_mul] at this
      exact (Int.mul_eq_zero.mp this).resolve_left hk
    have e1 : scaleL k a = pmul (cutI q) b := ev_ext (scaleL_trim hk pa.trim) (pmul_trim _ _) fun t => by
      rw [ev_pmul]
      unfold scaleL
      rw [ev_scale]
      exact e' t
    have l := pmul_len (cutI_trim q) pb.trim q0 hb
    rw [← e1, scaleL_len] at l
    have lq : (cutI q).length = 1 := by
      have := List.length_pos_iff.mpr q0
      omega
    obtain ⟨c, hc⟩ := List.length_eq_one_iff.mp lq
    have tq := cutI_trim q
    rw [hc] at tq
    refine plain_same pa pb hk (trim_one.mp tq) fun t => ?_
    rw [e' t, hc]
    show (c + t * 0) * _ = _
    rw [Int.mul_zero, Int.add_zero]
/-- g is the common part -/
structure IsGcd (a b g : List Int) : Prop where
  plain : Plain g
  left : Dv g a
  right : Dv g b
  most : ∀ d, Dv d a → Dv d b → Dv d g
theorem gcd_unique {a b g h : List Int} (x : IsGcd a b g) (y : IsGcd a b h) : g = h :=
  dv_antisymm x.plain y.plain (y.most g x.left x.right) (x.most h y.left y.right)
theorem IsGcd.symm {a b g : List Int} (x : IsGcd a b g) : IsGcd b a g := ⟨x.plain, x.right, x.left, fun d h1 h2 => x.most d h2 h1⟩
theorem dv_plain_left {a : List Int} (ta : Trim a) : Dv (plainI a) a := by
  by_cases h : a = []
  · subst h; exact Dv.refl _
  · exact ⟨1, [signI a], by decide, fun t => by rw [← ev_plainI ta h t]; show _ = (signI a + t * 0) * _; grind⟩
theorem dv_plain_right {a : List Int} (ta : Trim a) : Dv a (plainI a) := by
  by_cases h : a = []
  · subst h; exact Dv.refl _
  · exact ⟨signI a, [1], signI_ne ta h, fun t => by rw [ev_plainI ta h t]; show _ = (1 + t * 0) * _; grind⟩
theorem gcd_nil {a : List Int} (ta : Trim a) : IsGcd a [] (plainI a) := ⟨plainI_plain ta, dv_plain_left ta, Dv.nil _, fun d h _ => h.trans (dv_plain_right ta)⟩
/-- the same divisors -/
theorem IsGcd.congr {a b a' b' g : List Int} (x : IsGcd a b g) (h1 : Dv a a') (h2 : Dv a' a) (h3 : Dv b b') (h4 : Dv b' b) : IsGcd a' b' g :=
  ⟨x.plain, x.left.trans h1, x.right.trans h3, fun d p q => x.most d (p.trans h2) (q.trans h4)⟩
/-- one turn of division -/
theorem IsGcd.turn {a b r q g : List Int} {k : Int} (hk : k ≠ 0) (e : ∀ t, k * ev a t = ev q t * ev b t + ev r t) (x : IsGcd b r g) : IsGcd a b g :=
  ⟨x.plain, Dv.comb hk e x.left x.right, x.left, fun d p q => x.most d q (Dv.rest e p q)⟩
end DL
end L2

/-! PX: the rests of dividing by turns, made primitive, stay small: a combination of both polynomials with small figures (pigeonhole) is so many times the rest. Plain Lean. -/
namespace L2
namespace DL
open PySem PySem.Spec PyProof PyProof.Rows
/-- pigeonhole -/
theorem pig : ∀ (N : Nat) (f : Nat → Nat), (∀ i, i ≤ N → f i < N) → ∃ i j, i < j ∧ j ≤ N ∧ f i = f j
  | 0, f, h => absurd (h 0 (Nat.le_refl 0)) (by omega)
  | N + 1, f, h => by
    by_cases e : ∃ i, i ≤ N ∧ f i = f (N + 1)
    · obtain ⟨i, hi, e⟩ := e
      exact ⟨i, N + 1, by omega, Nat.le_refl _, e⟩
    · have ne : ∀ i, i ≤ N → f i ≠ f (N + 1) := fun i hi z => e ⟨i, hi, z⟩
      obtain ⟨i, j, hij, hj, e2⟩ := pig N (fun i => if f i = N then f (N + 1) else f i) (fun i hi => by
        show (if f i = N then f (N + 1) else f i) < N
        have h1 := h i (by omega)
        have h2 := h (N + 1) (Nat.le_refl _)
        have h3 := ne i hi
        split <;> omega)
      refine ⟨i, j, hij, by omega, ?_⟩
      have n1 := ne i (by omega)
      have n2 := ne j hj
      split at e2 <;> split at e2 <;> omega
/-- figures of i, u of them, of n bits each -/
def dig (n : Nat) : Nat → Nat → List Int
  | 0, _ => []
  | u + 1, i => ((i % 2 ^ n : Nat) : Int) :: dig n u (i / 2 ^ n)
theorem dig_len (n : Nat) : ∀ u i, (dig n u i).length = u
  | 0, _ => rfl
  | u + 1, i => by unfold dig; rw [List.length_cons, dig_len n u]
theorem dig_bd (n : Nat) : ∀ u i, ∀ x ∈ dig n u i, 0 ≤ x ∧ x < 2 ^ n
  | 0, _, x, h => by cases h
  | u + 1, i, x, h => by
    unfold dig at h
    rcases List.mem_cons.mp h with e | h
    · rw [e]
      have h1 := Nat.mod_lt i (two_pos n)
      refine ⟨by omega, ?_⟩
      have : ((i % 2 ^ n : Nat) : Int) < ((2 ^ n : Nat) : Int) := Int.ofNat_lt.mpr h1
      rw [Int.natCast_pow] at this
      exact this
    · exact dig_bd n u _ x h
theorem dig_inj (n : Nat) : ∀ u i j, i < 2 ^ (n * u) → j < 2 ^ (n * u) → dig n u i = dig n u j → i = j
  | 0, i, j, hi, hj, _ => by
    rw [Nat.mul_zero, Nat.pow_zero] at hi hj
    omega
  | u + 1, i, j, hi, hj, e => by
    unfold dig at e
    rw [List.cons.injEq] at e
    obtain ⟨e1, e2⟩ := e
    rw [Nat.mul_succ, Nat.pow_add] at hi hj
    have h1 : i / 2 ^ n < 2 ^ (n * u) := Nat.div_lt_of_lt_mul (by rw [Nat.mul_comm]; exact hi)
    have h2 : j / 2 ^ n < 2 ^ (n * u) := Nat.div_lt_of_lt_mul (by rw [Nat.mul_comm]; exact hj)
    have := dig_inj n u _ _ h1 h2 e2
    have e1' : i % 2 ^ n = j % 2 ^ n := Int.ofNat_inj.mp e1
    rw [← Nat.div_add_mod i (2 ^ n), ← Nat.div_add_mod j (2 ^ n), this, e1']
/-- figures as one number -/
def code (n : Nat) : List Int → Nat
  | [] => 0
  | v :: vs => (v + 2 ^ n).toNat + 2 ^ (n + 1) * code n vs
theorem code_one {n : Nat} {v : Int} (h : v.natAbs < 2 ^ n) : (v + 2 ^ n).toNat < 2 ^ (n + 1) ∧ ((v + 2 ^ n).toNat : Int) = v + 2 ^ n := by
  have e : ((2 ^ n : Nat) : Int) = (2 : Int) ^ n := Int.natCast_pow 2 n
  rw [← e, Nat.pow_succ]
  generalize 2 ^ n = m at h
  omega
theorem code_lt {n : Nat} : ∀ {l : List Int}, (∀ v ∈ l, v.natAbs < 2 ^ n) → code n l < 2 ^ ((n + 1) * l.length)
  | [], _ => by show 0 < 2 ^ ((n + 1) * 0); exact two_pos _
  | v :: vs, h => by
    have h1 := (code_one (h v List.mem_cons_self)).1
    have h2 := code_lt (l := vs) fun x hx => h x (List.mem_cons_of_mem _ hx)
    unfold code
    rw [List.length_cons, Nat.mul_succ, Nat.add_comm ((n + 1) * vs.length), Nat.pow_add 2 (n + 1) ((n + 1) * vs.length)]
    have h3 := Nat.mul_le_mul_left (2 ^ (n + 1)) (Nat.succ_le_of_lt h2)
    rw [Nat.mul_succ] at h3
    omega
theorem code_inj {n : Nat} : ∀ {l m : List Int}, l.length = m.length → (∀ v ∈ l, v.natAbs < 2 ^ n) → (∀ v ∈ m, v.natAbs < 2 ^ n) → code n l = code n m → l = m
  | [], [], _, _, _, _ => rfl
  | v :: vs, w :: ws, hl, h1, h2, e => by
    obtain ⟨a1, a2⟩ := code_one (h1 v List.mem_cons_self)
    obtain ⟨b1, b2⟩ := code_one (h2 w List.mem_cons_self)
    unfold code at e
    have ed := congrArg (· / 2 ^ (n + 1)) e
    have em := congrArg (· % 2 ^ (n + 1)) e
    simp only [Nat.add_mul_div_left _ _ (two_pos (n + 1)), Nat.div_eq_of_lt a1, Nat.div_eq_of_lt b1, Nat.zero_add] at ed
    simp only [Nat.add_mul_mod_self_left, Nat.mod_eq_of_lt a1, Nat.mod_eq_of_lt b1] at em
    have ih := code_inj (l := vs) (m := ws) (by simpa using hl) (fun x hx => h1 x (List.mem_cons_of_mem _ hx)) (fun x hx => h2 x (List.mem_cons_of_mem _ hx)) ed
    have : v = w := by rw [em] at a2; omega
    rw [this, ih]
/-- two unlike rows of small figures with like worths -/
theorem boxes {E n r : Nat} (F : List Int → Nat → Int) (bd : ∀ x : List Int, x.length = E + 1 → (∀ v ∈ x, 0 ≤ v ∧ v < 2 ^ n) → ∀ k, k < E → (F x k).natAbs < 2 ^ r) (room : (r + 1) * E < n * (E + 1)) :
    ∃ x y : List Int, x.length = E + 1 ∧ y.length = E + 1 ∧ x ≠ y ∧ (∀ v ∈ x, 0 ≤ v ∧ v < 2 ^ n) ∧ (∀ v ∈ y, 0 ≤ v ∧ v < 2 ^ n) ∧ ∀ k, k < E → F x k = F y k := by
  have bdl : ∀ i, ∀ v ∈ (List.range E).map (F (dig n (E + 1) i)), v.natAbs < 2 ^ r := fun i v hv => by
    obtain ⟨k, hk, rfl⟩ := List.mem_map.mp hv
    exact bd _ (dig_len n _ i) (dig_bd n _ i) k (List.mem_range.mp hk)
  obtain ⟨i, j, hij, hj, e⟩ := pig (2 ^ ((r + 1) * E)) (fun i => code r ((List.range E).map (F (dig n (E + 1) i)))) fun i _ => by
    have := code_lt (bdl i)
    rw [List.length_map, List.length_range] at this
    exact this
  have lt : 2 ^ ((r + 1) * E) < 2 ^ (n * (E + 1)) := Nat.pow_lt_pow_right (by decide) room
  refine ⟨dig n (E + 1) i, dig n (E + 1) j, dig_len n _ i, dig_len n _ j, fun z => ?_, dig_bd n _ i, dig_bd n _ j, fun k hk => ?_⟩
  · have := dig_inj n (E + 1) i j (by omega) (by omega) z
    omega
  · have := code_inj (by simp) (bdl i) (bdl j) e
    have h2 := congrArg (fun l => l[k]?) this
    simp only [List.getElem?_map, List.getElem?_range hk, Option.map_some, Option.some.injEq] at h2
    exact h2
/-- rests by turns -/
inductive Chain (p q : List Int) : List Int → List Int → Prop
  | start : Chain p q p q
  | next {x y r g : List Int} {k c : Int} : Chain p q x y → y ≠ [] → Trim r → r.length < y.length → k ≠ 0 → c ≠ 0 → (∀ t, k * ev x t = ev g t * ev y t + c * ev r t) → Chain p q y r
theorem Chain.facts {p q x y : List Int} (h : Chain p q x y) (tp : Trim p) (tq : Trim q) (hl : q.length ≤ p.length) : Trim x ∧ Trim y ∧ y.length ≤ x.length ∧ x.length ≤ p.length ∧ y.length ≤ q.length := by
  induction h with
  | start => exact ⟨tp, tq, hl, Nat.le_refl _, Nat.le_refl _⟩
  | next h ny tr lr hk hc e ih =>
    obtain ⟨h1, h2, h3, h4, h5⟩ := ih
    exact ⟨h2, tr, by omega, by omega, by omega⟩
theorem pmul_nil {a : List Int} : pmul [] a = [] := nil_of_ev (pmul_trim _ _) fun t => by rw [ev_pmul]; show 0 * _ = 0; rw [Int.zero_mul]
theorem nil_pmul {a : List Int} : pmul a [] = [] := nil_of_ev (pmul_trim _ _) fun t => by rw [ev_pmul]; show _ * 0 = 0; rw [Int.mul_zero]
theorem Chain.comb {p q x y : List Int} (h : Chain p q x y) (tp : Trim p) (tq : Trim q) (hl : q.length ≤ p.length) : ∀ (j : Nat) (s t w : List Int), j ≤ x.length → Trim s → Trim t → Trim w → s.length ≤ q.length + 1 - j → t.length ≤ p.length + 1 - j → w.length < j →
    (∀ z, ev w z = ev s z * ev p z + ev t z * ev q z) → (s ≠ [] ∨ t ≠ []) →
    ∃ (m : Int) (s' t' : List Int), m ≠ 0 ∧ Trim s' ∧ Trim t' ∧ s'.length ≤ y.length + 1 - j ∧ t'.length ≤ x.length + 1 - j ∧ (s' ≠ [] ∨ t' ≠ []) ∧ ∀ z, m * ev w z = ev s' z * ev x z + ev t' z * ev y z := by
  induction h with
  | start => exact fun j s t w _ ts tt _ ls lt _ e ne => ⟨1, s, t, by decide, ts, tt, ls, lt, ne, fun z => by rw [Int.one_mul]; exact e z⟩
  | @next x y r g k c h ny tr lr hk hc e ih =>
    intro j s t w hj ts tt tw ls lt lw ew ne
    obtain ⟨tx, ty, lxy, _, _⟩ := h.facts tp tq hl
    obtain ⟨m, s1, t1, hm, ts1, tt1, ls1, lt1, ne1, e1⟩ := ih j s t w (by omega) ts tt tw ls lt lw ew ne
    have es2 : ∀ z, ev (cutI (addL (mulL s1 g) (scaleL k t1))) z = ev s1 z * ev g z + k * ev t1 z := fun z => by
      unfold scaleL
      rw [ev_cutI, ev_addL, ev_mulL, ev_scale]
    have et2 : ∀ z, ev (pscaleI c s1) z = c * ev s1 z := ev_pscaleI c s1
    have lt2 := pscaleI_len c s1
    have key : ∀ z, k * m * ev w z = ev (cutI (addL (mulL s1 g) (scaleL k t1))) z * ev y z + ev (pscaleI c s1) z * ev r z := fun z => by
      rw [es2, et2]
      have h1 := e1 z
      have h2 := e z
      grind
    refine ⟨k * m, cutI (addL (mulL s1 g) (scaleL k t1)), pscaleI c s1, Int.mul_ne_zero hk hm, cutI_trim _, cutI_trim _, ?_, by omega, ?_, key⟩
    · generalize hS : cutI (addL (mulL s1 g) (scaleL k t1)) = s2 at key
      have ts2 : Trim s2 := by rw [← hS]; exact cutI_trim _
      by_cases z2 : s2 = []
      · rw [z2]; exact Nat.zero_le _
      · have l2 := pmul_len ts2 ty z2 ny
        have e2 : pmul s2 y = cutI (addL (scaleL (k * m) w) (scaleL (-1) (pmul (pscaleI c s1) r))) := ev_ext (pmul_trim _ _) (cutI_trim _) fun z => by
          unfold scaleL
          rw [ev_pmul, ev_cutI, ev_addL, ev_scale, ev_scale, ev_pmul, key z]
          omega
        have l3 := cutI_len (addL (scaleL (k * m) w) (scaleL (-1) (pmul (pscaleI c s1) r)))
        rw [addL_len, scaleL_len, scaleL_len, ← e2, l2] at l3
        have ls2 := List.length_pos_iff.mpr z2
        have ly := List.length_pos_iff.mpr ny
        by_cases zs : pscaleI c s1 = []
        · rw [zs, pmul_nil] at l3
          simp only [List.length_nil] at l3
          omega
        · by_cases zr : r = []
          · rw [zr, nil_pmul] at l3
            simp only [List.length_nil] at l3
            omega
          · have := pmul_len (cutI_trim _) tr zs zr
            have ls0 := List.length_pos_iff.mpr zs
            have lr0 := List.length_pos_iff.mpr zr
            unfold pscaleI at this l3 ls0 lt2
            omega
    · by_cases a : cutI (addL (mulL s1 g) (scaleL k t1)) = []
      · by_cases b : pscaleI c s1 = []
        · exfalso
          have s0 : s1 = [] := nil_of_ev ts1 fun z => by
            have := et2 z
            rw [b] at this
            rcases Int.mul_eq_zero.mp this.symm with z | z
            · exact absurd z hc
            · exact z
          have t0 : t1 = [] := nil_of_ev tt1 fun z => by
            have := es2 z
            rw [a, s0] at this
            have h0 : ev [] z = 0 := rfl
            rw [h0, Int.zero_mul, Int.zero_add] at this
            rcases Int.mul_eq_zero.mp this.symm with z | z
            · exact absurd z hk
            · exact z
          rcases ne1 with n | n
          · exact n s0
          · exact n t0
        · exact .inr b
      · exact .inl a
theorem co_ext : ∀ {a b : List Int}, a.length = b.length → (∀ k, co a k = co b k) → a = b
  | [], [], _, _ => rfl
  | x :: xs, y :: ys, hl, h => by
    have h0 := h 0
    rw [co_zero, co_zero] at h0
    rw [h0, co_ext (a := xs) (b := ys) (by simpa using hl) fun k => by have := h (k + 1); rwa [co_succ, co_succ] at this]
theorem box_bits {n : Nat} {a : List Int} (h : ∀ v ∈ a, 0 ≤ v ∧ v < 2 ^ n) : Bits n a := Bits.of_mem fun x hx => by
  have := h x hx
  have e : ((2 ^ n : Nat) : Int) = (2 : Int) ^ n := Int.natCast_pow 2 n
  rw [← e] at this
  omega
/-- bits of the rests -/
def kbits (M L : Nat) : Nat := (M + L + 3) * (2 * L + 1) + 1
theorem Chain.bits {p q x y : List Int} {M L : Nat} (h : Chain p q x y) (tp : Trim p) (tq : Trim q) (hl : q.length ≤ p.length) (lp : p.length ≤ L) (bp : Bits M p) (bq : Bits M q) (hx : x.length ≤ q.length) (hxy : y.length < x.length) (ny : y ≠ []) (one : contI 0 y = 1) : Bits (kbits M L) y := by
  obtain ⟨tx, ty, _, _, _⟩ := h.facts tp tq hl
  have ly := List.length_pos_iff.mpr ny
  let E := p.length + q.length + 1 - 2 * x.length
  let Ls := q.length + 1 - x.length
  let n := (M + L + 3) * (2 * L) + 1
  have hE : E ≤ 2 * L := by omega
  have hn : (n + M + L + 2 + 1) * E < n * (E + 1) := by
    have h1 : (M + L + 3) * E ≤ (M + L + 3) * (2 * L) := Nat.mul_le_mul_left _ hE
    have h2 : (n + M + L + 2 + 1) * E = n * E + (M + L + 3) * E := by rw [← Nat.add_mul]; congr 1; omega
    rw [h2, Nat.mul_succ]
    omega
  have comb : ∀ x' : List Int, x'.length = E + 1 → Bits n x' → Bits (n + M + L + 2) (addL (mulL (x'.take Ls) p) (mulL (x'.drop Ls) q)) := fun x' lx bx => by
    have b1 : Bits n (x'.take Ls) := fun k => by
      rw [co_take]
      split
      · exact bx k
      · exact two_pos n
    have b2 : Bits n (x'.drop Ls) := Bits.of_mem fun v hv => bx.mem (List.mem_of_mem_drop hv)
    have c1 : Bits (n + M + L + 1) (mulL (x'.take Ls) p) := (bits_mulL b1 bp).mono (by rw [List.length_take]; omega)
    have c2 : Bits (n + M + L + 1) (mulL (x'.drop Ls) q) := (bits_mulL b2 bq).mono (by rw [List.length_drop]; omega)
    exact c1.addL c2 (Nat.le_refl _)
  obtain ⟨u, v, lu, lv, ne, bu, bv, e⟩ := boxes (E := E) (n := n) (r := n + M + L + 2) (fun x' k => co (addL (mulL (x'.take Ls) p) (mulL (x'.drop Ls) q)) (x.length - 1 + k))
    (fun x' lx bx k hk => comb x' lx (box_bits bx) _) hn
  have bu := box_bits bu
  have bv := box_bits bv
  have ew : ∀ z, ev (cutI (addL (mulL (psubI (u.take Ls) (v.take Ls)) p) (mulL (psubI (u.drop Ls) (v.drop Ls)) q))) z = ev (psubI (addL (mulL (u.take Ls) p) (mulL (u.drop Ls) q)) (addL (mulL (v.take Ls) p) (mulL (v.drop Ls) q))) z := fun z => by
    rw [ev_cutI, ev_addL, ev_mulL, ev_mulL, ev_psubI, ev_psubI, ev_psubI, ev_addL, ev_mulL, ev_mulL, ev_addL, ev_mulL, ev_mulL]
    grind
  have bw : Bits (n + M + L + 3) (cutI (addL (mulL (psubI (u.take Ls) (v.take Ls)) p) (mulL (psubI (u.drop Ls) (v.drop Ls)) q))) := fun k => by
    rw [co_of_ev ew, co_psubI]
    have h1 := comb u lu bu k
    have h2 := comb v lv bv k
    rw [Nat.pow_succ]
    omega
  have ls := psubI_len (u.take Ls) (v.take Ls)
  have lt := psubI_len (u.drop Ls) (v.drop Ls)
  simp only [List.length_take, List.length_drop] at ls lt
  have lw : (cutI (addL (mulL (psubI (u.take Ls) (v.take Ls)) p) (mulL (psubI (u.drop Ls) (v.drop Ls)) q))).length ≤ x.length - 1 := len_of_co (cutI_trim _) fun k hk => by
    by_cases c : k < x.length - 1 + E
    · rw [co_of_ev ew, co_psubI]
      have := e (k - (x.length - 1)) (by omega)
      rw [show x.length - 1 + (k - (x.length - 1)) = k by omega] at this
      omega
    · rw [co_cutI, co_addL, mulL_bound _ _ k (by omega), mulL_bound _ _ k (by omega)]
      rfl
  generalize hs : psubI (u.take Ls) (v.take Ls) = s at *
  generalize ht : psubI (u.drop Ls) (v.drop Ls) = t at *
  have ts : Trim s := by rw [← hs]; exact cutI_trim _
  have tt : Trim t := by rw [← ht]; exact cutI_trim _
  have ne2 : s ≠ [] ∨ t ≠ [] := by
    by_cases a : s = []
    · by_cases b : t = []
      · exfalso
        apply ne
        have h1 : u.take Ls = v.take Ls := co_ext (by simp [lu, lv]) fun k => by
          have := co_psubI (u.take Ls) (v.take Ls) k
          rw [hs, a, co_nil] at this
          omega
        have h2 : u.drop Ls = v.drop Ls := co_ext (by simp [lu, lv]) fun k => by
          have := co_psubI (u.drop Ls) (v.drop Ls) k
          rw [ht, b, co_nil] at this
          omega
        rw [← List.take_append_drop Ls u, ← List.take_append_drop Ls v, h1, h2]
      · exact .inr b
    · exact .inl a
  generalize hw : cutI (addL (mulL s p) (mulL t q)) = w at *
  have tw : Trim w := by rw [← hw]; exact cutI_trim _
  obtain ⟨m, s', t', hm, ts', tt', ls', lt', ne', e'⟩ := h.comb tp tq hl x.length s t w (Nat.le_refl _) ts tt tw (by omega) (by omega) (by omega) (fun z => by rw [← hw, ev_cutI, ev_addL, ev_mulL, ev_mulL]) ne2
  have s0 : s' = [] := List.length_eq_zero_iff.mp (by omega)
  subst s0
  have t1 : t' ≠ [] := by
    rcases ne' with z | z
    · exact absurd rfl z
    · exact z
  obtain ⟨l, hl'⟩ := List.length_eq_one_iff.mp (show t'.length = 1 by have := List.length_pos_iff.mpr t1; omega)
  subst hl'
  have l0 : l ≠ 0 := trim_one.mp tt'
  have e2 : ∀ z, ev (scaleL m w) z = ev (scaleL l y) z := fun z => by
    unfold scaleL
    rw [ev_scale, ev_scale, e' z]
    show 0 * _ + (l + z * 0) * _ = _
    rw [Int.zero_mul, Int.zero_add, Int.mul_zero, Int.add_zero]
  have e3 : ∀ k, m * co w k = l * co y k := fun k => by
    have := co_of_ev e2 k
    unfold scaleL at this
    rwa [co_map (Int.mul_zero m), co_map (Int.mul_zero l)] at this
  have dl : m ∣ l := by
    have h1 : m ∣ contI 0 (scaleL l y) := dvd_contI _ 0 (Int.dvd_zero m) fun z hz => by
      obtain ⟨c, hc, rfl⟩ := List.mem_map.mp hz
      obtain ⟨k, hk, ek⟩ := List.getElem_of_mem hc
      have : co y k = c := by unfold co; rw [List.getD_eq_getElem?_getD, List.getElem?_eq_getElem hk]; exact ek
      rw [← this]
      exact ⟨co w k, (e3 k).symm⟩
    rw [contI_scaleL ny, one, Int.mul_one] at h1
    exact Int.dvd_natAbs.mp h1
  obtain ⟨d, hd⟩ := dl
  have d0 : d ≠ 0 := by rintro rfl; rw [Int.mul_zero] at hd; exact l0 hd
  intro k
  have e4 : co w k = d * co y k := by
    have := e3 k
    rw [hd, Int.mul_assoc] at this
    exact Int.eq_of_mul_eq_mul_left hm this
  have h5 := bw k
  have kb : kbits M L = n + M + L + 3 := by
    show (M + L + 3) * (2 * L + 1) + 1 = (M + L + 3) * (2 * L) + 1 + M + L + 3
    rw [Nat.mul_succ]
    omega
  rw [kb]
  refine Nat.lt_of_le_of_lt ?_ h5
  rw [e4, Int.natAbs_mul]
  exact Nat.le_mul_of_pos_left _ (Int.natAbs_pos.mpr d0)
end DL
end L2

/-! SPd: common parts: what is promised. -/
namespace L2
namespace DL
open PySem PySem.Spec PyProof PyProof.Rows
/-- a rest, but for numbers -/
structure RestD (a b r : List Int) : Prop where
  tr : Trim r
  lt : r.length < b.length
  le : r.length ≤ a.length
  eq : ∃ (k c : Int) (q : List Int), k ≠ 0 ∧ c ≠ 0 ∧ ∀ t, k * ev a t = ev q t * ev b t + c * ev r t
  bits : ∀ n m, Bits n a → Bits m b → Bits (n + (a.length + 1 - b.length) * (m + 1)) r
theorem RestOk.restD {a b r : List Int} (h : RestOk a b r) : RestD a b r := by
  obtain ⟨k, q, hk, e⟩ := h.eq
  exact ⟨h.tr, h.lt, h.le, ⟨k, 1, q, by omega, by decide, fun t => by rw [Int.one_mul]; exact e t⟩, h.bits⟩
theorem Dv.times {d r r' : List Int} {c : Int} (hc : c ≠ 0) (e : ∀ t, ev r' t = c * ev r t) : (Dv d r' → Dv d r) ∧ (Dv d r → Dv d r') := by
  constructor
  · rintro ⟨k, q, hk, h⟩
    exact ⟨k * c, q, Int.mul_ne_zero hk hc, fun t => by rw [Int.mul_assoc, ← e t]; exact h t⟩
  · rintro ⟨k, q, hk, h⟩
    refine ⟨k, scaleL c q, hk, fun t => ?_⟩
    unfold scaleL
    rw [ev_scale, e t]
    have := h t
    grind
theorem ev_scaleL (c : Int) (a : List Int) (t : Int) : ev (scaleL c a) t = c * ev a t := ev_scale c a t
theorem RestD.fwd {a b r : List Int} (h : RestD a b r) (d : List Int) (h1 : Dv d a) (h2 : Dv d b) : Dv d r := by
  obtain ⟨k, c, q, hk, hc, e⟩ := h.eq
  exact (Dv.times hc (ev_scaleL c r)).1 (Dv.rest (q := q) (r := scaleL c r) (fun t => by rw [ev_scaleL]; exact e t) h1 h2)
theorem RestD.bwd {a b r : List Int} (h : RestD a b r) (d : List Int) (h1 : Dv d b) (h2 : Dv d r) : Dv d a := by
  obtain ⟨k, c, q, hk, hc, e⟩ := h.eq
  exact Dv.comb (q := q) (r := scaleL c r) hk (fun t => by rw [ev_scaleL]; exact e t) h1 ((Dv.times hc (ev_scaleL c r)).2 h2)
theorem RestD.gcd {a b r g : List Int} (h : RestD a b r) (x : IsGcd b r g) : IsGcd a b g :=
  ⟨x.plain, h.bwd g x.left x.right, x.left, fun d p q => x.most d q (h.fwd d p q)⟩
theorem RestD.nil {a b r : List Int} (h : RestD a b r) (tb : Trim b) (d : Dv b a) : r = [] := (h.fwd b d (Dv.refl b)).short h.tr tb h.lt
theorem plain_own {r : List Int} (tr : Trim r) : ∃ c : Int, c ≠ 0 ∧ ∀ t, ev r t = c * ev (plainI r) t := by
  by_cases e : r = []
  · subst e
    exact ⟨1, by decide, fun t => rfl⟩
  · exact ⟨signI r, signI_ne tr e, fun t => (ev_plainI tr e t).symm⟩
theorem plainI_bits {n : Nat} {a : List Int} (ta : Trim a) (h : Bits n a) : Bits n (plainI a) := by
  unfold plainI
  split
  · exact Bits.nil
  · rename_i e
    exact h.part (signI_ne ta e) (signI_dvd a)
structure GcdOk (a b g : List Int) : Prop where
  gcd : IsGcd a b g
/-- not too great to be divided by turns -/
structure Small (a b : List Int) : Prop where
  la : a.length ≤ 40
  lb : b.length ≤ 40
  bits : ∃ M, Bits M a ∧ Bits M b ∧ M ≤ 20000
theorem Small.mk' {a b : List Int} {n m : Nat} (la : a.length ≤ 40) (lb : b.length ≤ 40) (ba : Bits n a) (bb : Bits m b) (hn : n ≤ 20000) (hm : m ≤ 20000) : Small a b := ⟨la, lb, max n m, ba.mono (Nat.le_max_left n m), bb.mono (Nat.le_max_right n m), Nat.max_le.mpr ⟨hn, hm⟩⟩
theorem Small.symm {a b : List Int} (h : Small a b) : Small b a := by
  obtain ⟨M, h1, h2, h3⟩ := h.bits
  exact ⟨h.lb, h.la, M, h2, h1, h3⟩
def sp_lleft : DSp := fun ds S Q _ => ∃ a b, ds = [PT a, PT b] ∧ b ≠ [] ∧ Trim a ∧ Trim b ∧ a.length ≤ 100 ∧ b.length ≤ 100 ∧ (∃ n m, Bits n a ∧ Bits m b ∧ n + (a.length + 1 - b.length + 1) * (m + 1) ≤ 100000000) ∧ ∀ r, RestD a b r → (b.length ≤ a.length → Plain r) → Q (PT r) S
def sp_common : DSp := fun ds S Q _ => ∃ a b, ds = [PT a, PT b] ∧ Trim a ∧ Trim b ∧ Small a b ∧ ∀ g, GcdOk a b g → Q (PT g) S
def sp_lcommon : DSp := sp_common
section
variable {S : Sto} {Q : DK} {E : Addr → Sto → Prop} {a b : List Int}
theorem call_lleft : sp_lleft [PT a, PT b] S Q E = (b ≠ [] ∧ Trim a ∧ Trim b ∧ a.length ≤ 100 ∧ b.length ≤ 100 ∧ (∃ n m, Bits n a ∧ Bits m b ∧ n + (a.length + 1 - b.length + 1) * (m + 1) ≤ 100000000) ∧ ∀ r, RestD a b r → (b.length ≤ a.length → Plain r) → Q (PT r) S) :=
  propext ⟨fun ⟨_, _, e, h⟩ => by simp only [List.cons.injEq] at e; obtain ⟨e1, e2, _⟩ := e; obtain rfl := pt_inj e1; obtain rfl := pt_inj e2; exact h, fun h => ⟨_, _, rfl, h⟩⟩
theorem call_common : sp_common [PT a, PT b] S Q E = (Trim a ∧ Trim b ∧ Small a b ∧ ∀ g, GcdOk a b g → Q (PT g) S) :=
  propext ⟨fun ⟨_, _, e, h⟩ => by simp only [List.cons.injEq] at e; obtain ⟨e1, e2, _⟩ := e; obtain rfl := pt_inj e1; obtain rfl := pt_inj e2; exact h, fun h => ⟨_, _, rfl, h⟩⟩
theorem call_lcommon : sp_lcommon [PT a, PT b] S Q E = (Trim a ∧ Trim b ∧ Small a b ∧ ∀ g, GcdOk a b g → Q (PT g) S) := call_common
end
/-- what stands while a common part is made: ahead of the first turn, or behind it -/
structure Euc (a b x y : List Int) : Prop where
  tx : Trim x
  ty : Trim y
  lx : x.length ≤ 40
  ly : y.length ≤ 40
  gcd : ∀ g, IsGcd x y g → IsGcd a b g
  bits : (Bits 20000 x ∧ Bits 20000 y) ∨ ∃ p q, Chain p q x y ∧ Trim p ∧ Trim q ∧ p.length ≤ 40 ∧ q.length ≤ p.length ∧ Bits 20000 p ∧ Bits 20000 q ∧ x.length ≤ q.length ∧ y.length < x.length ∧ Bits (kbits 20000 40) x ∧ Bits (kbits 20000 40) y
theorem kb : kbits 20000 40 = 1623484 := by decide
theorem Euc.room {a b x y : List Int} (e : Euc a b x y) : ∃ n m, Bits n x ∧ Bits m y ∧ n + (x.length + 1 - y.length + 1) * (m + 1) ≤ 100000000 := by
  have lx := e.lx
  have h : Bits 1623484 x ∧ Bits 1623484 y := by
    rw [← kb]
    rcases e.bits with ⟨h1, h2⟩ | ⟨p, q, _, _, _, _, _, _, _, _, _, h1, h2⟩
    · exact ⟨h1.mono (by rw [kb]; decide), h2.mono (by rw [kb]; decide)⟩
    · exact ⟨h1, h2⟩
  refine ⟨1623484, 1623484, h.1, h.2, ?_⟩
  have := Nat.mul_le_mul_right (1623484 + 1) (show x.length + 1 - y.length + 1 ≤ 42 by omega)
  omega
theorem Euc.next {a b x y r r' : List Int} (e : Euc a b x y) (hy : y ≠ []) (k : RestD x y r) (tr : Trim r') (lr : r'.length = r.length) (br : ∀ n, Bits n r → Bits n r') (d : ∃ c : Int, c ≠ 0 ∧ ∀ t, ev r t = c * ev r' t) (one : y.length ≤ x.length → r' ≠ [] → contI 0 r' = 1) : Euc a b y r' := by
  obtain ⟨c, hc, ec⟩ := d
  have dd : ∀ d, (Dv d r → Dv d r') ∧ (Dv d r' → Dv d r) := fun d => Dv.times (d := d) hc ec
  have ly := List.length_pos_iff.mpr hy
  have lt := k.lt
  refine ⟨e.ty, tr, e.ly, by have := e.ly; omega, fun g x => e.gcd g (k.gcd (x.congr (Dv.refl _) (Dv.refl _) ((dd r').2 (Dv.refl _)) ((dd r).1 (Dv.refl _)))), ?_⟩
  obtain ⟨kk, cc, q, hk, hcc, ee⟩ := k.eq
  have step : ∀ {p q'}, Chain p q' x y → Chain p q' y r' := fun ch => Chain.next (g := q) (k := kk) (c := cc * c) ch hy tr (by omega) hk (Int.mul_ne_zero hcc hc) fun t => by rw [ee t, ec t, Int.mul_assoc]
  have small : ∀ {p q'}, Chain p q' x y → Trim p → Trim q' → p.length ≤ 40 → q'.length ≤ p.length → Bits 20000 p → Bits 20000 q' → y.length ≤ q'.length → y.length ≤ x.length → Bits (kbits 20000 40) r' := fun ch tp tq lp lq bp bq hyq hyx => by
    by_cases z : r' = []
    · rw [z]; exact Bits.nil
    · exact (step ch).bits tp tq lq lp bp bq hyq (by omega) z (one hyx z)
  rcases e.bits with ⟨h1, h2⟩ | ⟨p, q', ch, tp, tq, lp, lq, bp, bq, hx, hyx, h1, h2⟩
  · by_cases hl : x.length < y.length
    · have b1 := k.bits 20000 20000 h1 h2
      rw [show x.length + 1 - y.length = 0 by omega, Nat.zero_mul, Nat.add_zero] at b1
      exact .inl ⟨h2, br _ b1⟩
    · exact .inr ⟨x, y, step .start, e.tx, e.ty, e.lx, by omega, h1, h2, Nat.le_refl _, by omega, h2.mono (by rw [kb]; decide), small .start e.tx e.ty e.lx (by omega) h1 h2 (Nat.le_refl _) (by omega)⟩
  · exact .inr ⟨p, q', step ch, tp, tq, lp, lq, bp, bq, by omega, by omega, h2, small ch tp tq lp lq bp bq (by omega) (by omega)⟩
theorem Euc.done {a b x : List Int} (e : Euc a b x []) : GcdOk a b (plainI x) := ⟨e.gcd _ (gcd_nil e.tx)⟩
end DL
end L2

namespace L2
namespace DL
open PySem PySem.Spec PyProof PyProof.Rows
local macro_rules | `(tactic| walk_at "dl") => `(tactic| simp only [sSeq, sSet, sIf, sRet, sPar, sNext, sDrop, sAsg, sRaise, eBin, eUn, eVar, eC, eB, eM, eM0, eTup, eLst, eCall, eAndV, eOrV, eNotV, eIf, aCons, aNil, tVal, tAndD, tOrD, tNotD, cBl, dName, dSub, dTup, dLst, dCons, dNil,
  onI_ii, onIC_ii, oAdd_ii, oAdd_tt, oIadd_ii, oMul_ii, oNeg_i, oEq_ii, oNe_ii, oIx_t, oIx_v, oIx_r, oLen_t, oLen_v, oLen_r, oAbs_i, o2I_ii, oInt_i, oInt_b, oTuple_t, oTuple_r, isi_int, isi_bool, isi_tup, oSet_r, oAppend_r, isL_r, iLstD_r, lstAt_sup, rdAt_sup, ix0, ix1, ix2, ix3, sFor, iRange1, iRange2,
  call_divisor, call_number, call_plus, call_minus, call_times, call_over, call_draw, call_whole, call_isWhole, call_isNumber, call_low, call_told, call_lover, call_right,
  call_content, call_parted, call_plain, call_isPoly, call_lpoly, oEq_pp, oNe_pp, oEq_p0, oNe_p0, iTupD, eLc, oMul_t, eSl, pNone, pSome, cSl, sAug, eLstRg1, tYesD, sPar3, call_figAt, call_pplus, call_pminus, call_scaled, call_raised, call_lsum, call_lproduct, call_ptimes, call_head, call_restBy, call_longdiv, call_lleft, call_common, call_lcommon,
  bodyEnds, bodyEX, List.set_cons_zero, List.set_cons_succ, List.getElem?_cons_zero, List.getElem?_cons_succ, decide_eq_true_eq, Bool.not_eq_true', decide_eq_false_iff_not, List.nil_append, List.append_nil, List.cons_append, Bool.false_eq_true, if_false, if_true, true_and, and_true])
/-- rest_by: 0 one, 1 other -/
def t_rest_by : DS :=
  (sSeq (sWhile (tVal (eBin oGe (eB oLen (aCons (eVar 0) aNil)) (eB oLen (aCons (eVar 1) aNil)))) (sSet 0 (eBin oIx (eCall sp_head [] (aCons (eVar 0) (aCons (eVar 1) aNil))) (eC (.int 0)))))
  (sRet (eVar 0)))
/-- common: 0 one, 1 other -/
def t_common : DS :=
  (sSeq (sPar 0 1 (eCall sp_plain [] (aCons (eVar 0) aNil)) (eCall sp_plain [] (aCons (eVar 1) aNil)))
  (sSeq (sWhile (tVal (eBin oNe (eVar 1) (eTup aNil))) (sPar 0 1 (eVar 1) (eCall sp_plain [] (aCons (eCall sp_restBy [] (aCons (eVar 0) (aCons (eVar 1) aNil))) aNil))))
  (sRet (eVar 0))))
/-- _law_left: 0 _law_one, 1 _law_other, 2 _law_shift, 3 _law_head -/
def t__law_left : DS :=
  (sSeq (sWhile (tVal (eBin oGe (eB oLen (aCons (eVar 0) aNil)) (eB oLen (aCons (eVar 1) aNil)))) (sSeq (sSet 2 (eBin oSub (eB oLen (aCons (eVar 0) aNil)) (eB oLen (aCons (eVar 1) aNil))))
  (sSeq (sSet 3 (eCall sp_lproduct [] (aCons (eBin oAdd (eBin oMul (eTup (aCons (eC (.int 0)) aNil)) (eVar 2)) (eTup (aCons (eBin oIx (eVar 0) (eUn oNeg (eC (.int 1)))) aNil))) (aCons (eVar 1) aNil))))
  (sSet 0 (eCall sp_plain [] (aCons (eCall sp_lsum [] (aCons (eCall sp_lproduct [] (aCons (eTup (aCons (eBin oIx (eVar 1) (eUn oNeg (eC (.int 1)))) aNil)) (aCons (eVar 0) aNil))) (aCons (eVar 3) (aCons (eUn oNeg (eC (.int 1))) aNil)))) aNil))))))
  (sRet (eVar 0)))
/-- _law_common: 0 _law_one, 1 _law_other -/
def t__law_common : DS :=
  (sSeq (sWhile (tVal (eBin oNe (eVar 1) (eTup aNil))) (sPar 0 1 (eVar 1) (eCall sp_lleft [] (aCons (eVar 0) (aCons (eVar 1) aNil)))))
  (sRet (eCall sp_plain [] (aCons (eVar 0) aNil))))
theorem sem_rest_by' : ∀ ds S Q E, sp_restBy ds S Q E → t_rest_by (bodyEX E) (bodyEnds Q) (dstart ["one", "other"] ds) S := sem_rest_by
theorem sem_common : ∀ ds S Q E, sp_common ds S Q E → t_common (bodyEX E) (bodyEnds Q) (dstart ["one", "other"] ds) S := by
  rintro ds S Q E ⟨a, b, rfl, ta, tb, ⟨la, lb, M, ba, bb, hM⟩, q⟩
  show t_common (bodyEX E) (bodyEnds Q) [some (PT a), some (PT b)] S
  unfold t_common
  walk_at "dl"
  refine ⟨ta, by omega, tb, by omega, ?_⟩
  have start : Euc a b (plainI a) (plainI b) := ⟨(plainI_plain ta).trim, (plainI_plain tb).trim, by rw [plainI_len]; exact la, by rw [plainI_len]; exact lb,
    fun g x => x.congr (dv_plain_left ta) (dv_plain_right ta) (dv_plain_left tb) (dv_plain_right tb), .inl ⟨plainI_bits ta (ba.mono hM), plainI_bits tb (bb.mono hM)⟩⟩
  refine ⟨fun w δ S' => ∃ x y, Euc a b x y ∧ Plain x ∧ Plain y ∧ δ = [some (PT x), some (PT y)] ∧ S' = S ∧ w = y.length, ⟨_, _, _, start, plainI_plain ta, plainI_plain tb, rfl, rfl, rfl⟩, ?_⟩
  rintro w δ S' ⟨x, y, e, px, py, rfl, rfl, rfl⟩
  walk_at "dl"
  refine ⟨sz0, ?_⟩
  by_cases c : y = []
  · subst c
    rw [if_neg (not_not_intro rfl)]
    have := e.done
    rw [plainI_of_plain px] at this
    exact ⟨S', Sub.refl S', q x this⟩
  · rw [if_pos c]
    have lx := e.lx
    refine ⟨c, px.trim, py.trim, by omega, e.room, fun r ok => ?_⟩
    have hl := ok.le
    have hlt := ok.lt
    refine ⟨ok.tr, by omega, (plainI r).length, by rw [plainI_len]; exact hlt, y, plainI r, e.next c ok.restD (plainI_plain ok.tr).trim (plainI_len r) (fun n h => plainI_bits ok.tr h) (plain_own ok.tr) (fun _ z => (plainI_plain ok.tr).one z), py, plainI_plain ok.tr, rfl, rfl⟩
theorem step_ok {a b : List Int} {o h : Int} (hb : b ≠ []) (hl : b.length ≤ a.length) (cr : o * a.getLastD 1 = h * b.getLastD 1) :
    (psubI (pscaleI o a) (raiseI (pscaleI h b) (a.length - b.length))).length < a.length ∧
    (∀ t, o * ev a t = ev (raiseI [h] (a.length - b.length)) t * ev b t + ev (psubI (pscaleI o a) (raiseI (pscaleI h b) (a.length - b.length))) t) ∧
    ∀ n m, Bits n a → Bits m b → o.natAbs < 2 ^ m → h.natAbs < 2 ^ n → Bits (n + m + 1) (psubI (pscaleI o a) (raiseI (pscaleI h b) (a.length - b.length))) := by
  have lb := List.length_pos_iff.mpr hb
  have ha : a ≠ [] := by rintro rfl; simp at hl; exact hb hl
  have la := List.length_pos_iff.mpr ha
  have z : ∀ k, a.length - 1 ≤ k → co (psubI (pscaleI o a) (raiseI (pscaleI h b) (a.length - b.length))) k = 0 := by
    intro k hk
    rw [co_psubI, co_pscaleI, co_raiseI, if_neg (by omega), co_pscaleI]
    by_cases e : k = a.length - 1
    · subst e
      rw [show a.length - 1 - (a.length - b.length) = b.length - 1 by omega, co_last ha, co_last hb]
      omega
    · rw [co_ge (a := a) (by omega), co_ge (a := b) (by omega)]
      omega
  refine ⟨?_, fun t => ?_, fun n m bn bm b1 b2 => ?_⟩
  · have := len_of_co (cutI_trim _) z
    unfold psubI at this ⊢
    omega
  · rw [ev_psubI, ev_pscaleI, ev_raiseI, ev_raiseI, ev_pscaleI]
    show o * ev a t = t ^ (a.length - b.length) * (h + t * 0) * ev b t + _
    generalize t ^ (a.length - b.length) = u
    grind
  · unfold psubI pscaleI
    exact (((bn.scale b1 (Nat.le_refl _)).cut).addL (((bm.scale b2 (Nat.le_of_eq (Nat.add_comm m n))).cut.raise).neg) (Nat.le_refl _)).cut
theorem left_eq (a b : List Int) (o h : Int) (n : Nat) : cutI (addL (pmul [o] a) (scaleL (-1) (pmul (List.replicate n 0 ++ [h]) b))) = psubI (pscaleI o a) (raiseI (pscaleI h b) n) := by
  unfold psubI
  refine cutI_ev fun t => ?_
  unfold scaleL negL
  rw [ev_addL, ev_addL, ev_scale, ev_scale, ev_pmul, ev_pmul, ev_pscaleI, ev_raiseI, ev_pscaleI, ev_rep]
  show (o + t * 0) * _ + -1 * (_ * (h + t * 0) * _) = _
  generalize t ^ n = u
  grind
theorem sem__law_left : ∀ ds S Q E, sp_lleft ds S Q E → t__law_left (bodyEX E) (bodyEnds Q) (dstart ["_law_one", "_law_other", "_law_shift", "_law_head"] ds) S := by
  rintro ds S Q E ⟨a, b, rfl, hb, ta, tb, la, lb, ⟨n, m, bn, bm, hnm⟩, q⟩
  show t__law_left (bodyEX E) (bodyEnds Q) [some (PT a), some (PT b), none, none] S
  have tb0 : b.getLastD 1 ≠ 0 := tb
  unfold t__law_left
  simp only [sSeq]
  refine ⟨fun w δ S' => ∃ (r : List Int) (s : Nat) (o2 o3 : Option D), Stage a b r s ∧ (∃ (k c : Int) (q : List Int), k ≠ 0 ∧ c ≠ 0 ∧ ∀ t, k * ev a t = ev q t * ev b t + c * ev r t) ∧ (Plain r ∨ r = a) ∧ δ = [some (PT r), some (PT b), o2, o3] ∧ S' = S ∧ w = r.length,
    ⟨_, a, 0, none, none, ⟨ta, Nat.zero_le _, by omega, fun n m bn _ => bn.mono (Nat.le_add_right _ _)⟩, ⟨1, 1, [], by decide, by decide, fun t => by show _ = 0 * _ + _; rw [Int.zero_mul, Int.zero_add]⟩, .inr rfl, rfl, rfl, rfl⟩, ?_⟩
  rintro w δ S' ⟨r, s, o2, o3, g, eqs, pl, rfl, rfl, rfl⟩
  walk_at "dl"
  simp only [List.length_map]
  have hr := g.le
  have lb0 := List.length_pos_iff.mpr hb
  by_cases c : (b.length : Int) ≤ r.length
  · have c' : b.length ≤ r.length := by omega
    have hre : r ≠ [] := by rintro rfl; simp at c'; exact hb c'
    have hla : r.getLastD 1 ≠ 0 := g.tr
    rw [if_pos (by omega), ix_lastI hre, ix_lastI hb]
    have room := g.room c' hb hnm
    have bg := g.bits n m bn bm
    have b1 : (b.getLastD 1).natAbs < 2 ^ m := by rw [← co_last hb]; exact bm _
    have b2 : (r.getLastD 1).natAbs < 2 ^ (n + s * (m + 1)) := by rw [← co_last hre]; exact bg _
    have en : ((r.length : Int) - (b.length : Int)).toNat = r.length - b.length := by omega
    refine ⟨sz1, ⟨by omega, by omega, by decide⟩, sz1, ?_, ?_⟩
    · rw [en, flat_zeros, List.length_map, List.length_replicate]
      exact size_le (by simp; omega)
    rw [en, flat_zeros]
    have e1 : (List.replicate (r.length - b.length) (0 : Int)).map D.int ++ [D.int (r.getLastD 1)] = (List.replicate (r.length - b.length) 0 ++ [r.getLastD 1]).map D.int := by rw [List.map_append]; rfl
    rw [e1]
    show sp_lproduct [PT (List.replicate (r.length - b.length) 0 ++ [r.getLastD 1]), PT b] _ _ _
    rw [call_lproduct]
    refine ⟨by simp; omega, by omega, fun x hx y hy => ?_, ?_⟩
    · rcases List.mem_append.mp hx with hx | hx
      · rw [(List.mem_replicate.mp hx).2]
        exact mulok_left (by decide) (by decide)
      · rw [List.mem_singleton.mp hx]
        exact mul_ok b2 (bm.mem hy) room
    walk_at "dl"
    refine ⟨sz1, ?_⟩
    show sp_lproduct [PT [b.getLastD 1], PT r] _ _ _
    rw [call_lproduct]
    refine ⟨by simp, by omega, fun x hx y hy => ?_, ?_⟩
    · rw [List.mem_singleton.mp hx]
      exact mul_ok b1 (bg.mem hy) (by omega)
    walk_at "dl"
    obtain ⟨s1, s2, s3⟩ := step_ok (a := r) (b := b) (o := b.getLastD 1) (h := r.getLastD 1) hb c' (Int.mul_comm _ _)
    have l1 := Nat.le_trans (cutI_len (mulL [b.getLastD 1] r)) (mulL_len_le _ r)
    have l2 := Nat.le_trans (cutI_len (mulL (List.replicate (r.length - b.length) 0 ++ [r.getLastD 1]) b)) (mulL_len_le _ b)
    simp only [List.length_cons, List.length_nil, List.length_append, List.length_replicate] at l1 l2
    have lp1 : (pmul [b.getLastD 1] r).length ≤ 10000 := by unfold pmul; omega
    have lp2 : (pmul (List.replicate (r.length - b.length) 0 ++ [r.getLastD 1]) b).length ≤ 10000 := by unfold pmul; omega
    refine ⟨lp1, lp2, fun x hx => mulok_left (by decide) (by decide), cutI_trim _, ?_⟩
    rw [left_eq]
    generalize hx : psubI (pscaleI (b.getLastD 1) r) (raiseI (pscaleI (r.getLastD 1) b) (r.length - b.length)) = x at s1 s2 s3
    have tx : Trim x := by rw [← hx]; exact cutI_trim _
    refine ⟨by omega, (plainI x).length, by rw [plainI_len]; exact s1, plainI x, s + 1, _, _, ⟨(plainI_plain tx).trim, ?_, ?_, fun n m bn bm => ?_⟩, ?_, .inl (plainI_plain tx), rfl, rfl⟩
    · omega
    · rw [plainI_len]; omega
    · have bg := g.bits n m bn bm
      have b1 : (b.getLastD 1).natAbs < 2 ^ m := by rw [← co_last hb]; exact bm _
      have b2 : (r.getLastD 1).natAbs < 2 ^ (n + s * (m + 1)) := by rw [← co_last hre]; exact bg _
      refine (plainI_bits tx (s3 _ m bg bm b1 b2)).mono ?_
      rw [Nat.add_mul, Nat.one_mul]
      omega
    · obtain ⟨K, c0, Qq, hK, hc0, e0⟩ := eqs
      obtain ⟨cx, hcx, ex⟩ := plain_own tx
      refine ⟨b.getLastD 1 * K, c0 * cx, addL (scaleL (b.getLastD 1) Qq) (scaleL c0 (raiseI [r.getLastD 1] (r.length - b.length))), Int.mul_ne_zero tb0 hK, Int.mul_ne_zero hc0 hcx, fun t => ?_⟩
      unfold scaleL
      rw [ev_addL, ev_scale, ev_scale]
      have a1 := e0 t
      have a2 := s2 t
      have a3 := ex t
      grind
  · rw [if_neg (by omega)]
    refine ⟨S', Sub.refl S', q r ⟨g.tr, by omega, by omega, eqs, fun n m bn bm => (g.bits n m bn bm).mono ?_⟩ fun hba => ?_⟩
    · exact Nat.add_le_add_left (Nat.mul_le_mul_right _ g.st) _
    · rcases pl with z | z
      · exact z
      · rw [z] at c; omega
theorem sem__law_common : ∀ ds S Q E, sp_lcommon ds S Q E → t__law_common (bodyEX E) (bodyEnds Q) (dstart ["_law_one", "_law_other"] ds) S := by
  rintro ds S Q E ⟨a, b, rfl, ta, tb, ⟨la, lb, M, ba, bb, hM⟩, q⟩
  show t__law_common (bodyEX E) (bodyEnds Q) [some (PT a), some (PT b)] S
  unfold t__law_common
  simp only [sSeq]
  refine ⟨fun w δ S' => ∃ x y, Euc a b x y ∧ δ = [some (PT x), some (PT y)] ∧ S' = S ∧ w = y.length, ⟨_, _, _, ⟨ta, tb, la, lb, fun g x => x, .inl ⟨ba.mono hM, bb.mono hM⟩⟩, rfl, rfl, rfl⟩, ?_⟩
  rintro w δ S' ⟨x, y, e, rfl, rfl, rfl⟩
  walk_at "dl"
  refine ⟨sz0, ?_⟩
  by_cases c : y = []
  · subst c
    rw [if_neg (not_not_intro rfl)]
    have lx := e.lx
    exact ⟨e.tx, by omega, S', Sub.refl S', q _ e.done⟩
  · rw [if_pos c]
    have lx := e.lx
    have ly := e.ly
    refine ⟨c, e.tx, e.ty, by omega, by omega, e.room, fun r ok pl => ?_⟩
    refine ⟨r.length, ok.lt, y, r, e.next c ok ok.tr rfl (fun n h => h) ⟨1, by decide, fun t => by rw [Int.one_mul]⟩ (fun h z => (pl h).one z), rfl, rfl⟩
end DL
end L2

/-! RQ: numbers as rational numbers; worths and slopes. Plain Lean. -/
namespace L2
namespace DL
open PySem PySem.Spec PyProof PyProof.Rows
/-- the number r -/
abbrev NQ (r : Rat) : D := N2 r.num (r.den : Int)
theorem den_pos (r : Rat) : (0 : Int) < (r.den : Int) := by
  have := r.den_nz
  omega
theorem den_ne (r : Rat) : (r.den : Int) ≠ 0 := by have := den_pos r; omega
theorem rat_low (r : Rat) : Low r.num (r.den : Int) := ⟨den_pos r, by
  unfold gcdI Int.gcd
  rw [Int.natAbs_natCast]
  have := r.reduced
  unfold Nat.Coprime at this
  rw [this]
  rfl⟩
theorem low_divInt {p q : Int} (h : Low p q) : (Rat.divInt p q).num = p ∧ ((Rat.divInt p q).den : Int) = q := by
  have q0 : q ≠ 0 := by have := h.pos; omega
  have e := Rat.num_divInt_den (Rat.divInt p q)
  have e2 := (Rat.divInt_eq_divInt_iff (den_ne _) q0).mp e
  exact low_eq (rat_low _) h e2
theorem nrm_rat (a : Int) {b : Int} (h : b ≠ 0) : nrm a b = ((Rat.divInt a b).num, ((Rat.divInt a b).den : Int)) := by
  have l := nrm_low a h
  have c := nrm_cross (a := a) h
  have e : Rat.divInt (nrm a b).1 (nrm a b).2 = Rat.divInt a b := (Rat.divInt_eq_divInt_iff (by have := l.pos; omega) h).mpr c
  obtain ⟨e1, e2⟩ := low_divInt l
  rw [e] at e1 e2
  exact Prod.ext e1.symm e2.symm
theorem NN_nrm (a : Int) {b : Int} (h : b ≠ 0) : NN (nrm a b) = NQ (Rat.divInt a b) := by rw [nrm_rat a h]
theorem NQ_inj {x y : Rat} (h : NQ x = NQ y) : x = y := by
  have h1 : [D.int x.num, D.int (x.den : Int)] = [D.int y.num, D.int (y.den : Int)] := by injection h
  rw [List.cons.injEq, List.cons.injEq] at h1
  obtain ⟨h2, h3, _⟩ := h1
  refine Rat.ext (by injection h2) ?_
  have : (x.den : Int) = y.den := by injection h3
  omega
theorem divInt_own (x : Rat) : Rat.divInt x.num (x.den : Int) = x := Rat.num_divInt_den x
theorem add_divInt (x y : Rat) : Rat.divInt (x.num * y.den + y.num * x.den) ((x.den : Int) * y.den) = x + y := by
  rw [← Rat.divInt_add_divInt _ _ (den_ne x) (den_ne y), divInt_own, divInt_own]
theorem mul_divInt (x y : Rat) : Rat.divInt (x.num * y.num) ((x.den : Int) * y.den) = x * y := by
  rw [← Rat.divInt_mul_divInt, divInt_own, divInt_own]
theorem NQ_int (n : Int) : NQ (n : Rat) = N2 n 1 := by
  show N2 (n : Rat).num ((n : Rat).den : Int) = _
  rw [Rat.num_intCast, Rat.den_intCast]
  rfl
theorem NQ_zero : NQ 0 = N2 0 1 := rfl
theorem NQ_one : NQ 1 = N2 1 1 := rfl
/-- bits of a number -/
structure RB (n : Nat) (x : Rat) : Prop where
  num : x.num.natAbs < 2 ^ n
  den : ((x.den : Int)).natAbs < 2 ^ n
theorem RB.mono {n m : Nat} {x : Rat} (h : RB n x) (hm : n ≤ m) : RB m x := ⟨Nat.lt_of_lt_of_le h.num (pow_mono hm), Nat.lt_of_lt_of_le h.den (pow_mono hm)⟩
theorem RB.divInt {n : Nat} {a b : Int} (hb : b ≠ 0) (h1 : a.natAbs < 2 ^ n) (h2 : b.natAbs < 2 ^ n) : RB n (Rat.divInt a b) := by
  obtain ⟨l1, l2⟩ := nrm_le (a := a) hb
  rw [nrm_rat a hb] at l1 l2
  exact ⟨Nat.lt_of_le_of_lt l1 h1, Nat.lt_of_le_of_lt l2 h2⟩
theorem RB.mul {n m l : Nat} {x y : Rat} (hx : RB n x) (hy : RB m y) (hl : n + m ≤ l) : RB l (x * y) := by
  rw [← mul_divInt]
  exact RB.divInt (Int.mul_ne_zero (den_ne x) (den_ne y)) (pow_lt hx.num hy.num hl) (pow_lt hx.den hy.den hl)
theorem RB.add {n m l : Nat} {x y : Rat} (hx : RB n x) (hy : RB m y) (hl : n + m + 1 ≤ l) : RB l (x + y) := by
  rw [← add_divInt]
  refine RB.divInt (Int.mul_ne_zero (den_ne x) (den_ne y)) ?_ (pow_lt hx.den hy.den (by omega))
  have h1 := pow_lt hx.num hy.den (Nat.le_refl (n + m))
  have h2 := pow_lt hy.num hx.den (Nat.le_of_eq (Nat.add_comm m n))
  have h3 := pow_mono hl
  rw [Nat.pow_succ] at h3
  omega
theorem RB.int {n : Nat} {c : Int} (h : c.natAbs < 2 ^ n) (h1 : 1 ≤ n) : RB n (c : Rat) := by
  refine ⟨by rw [Rat.num_intCast]; exact h, ?_⟩
  rw [Rat.den_intCast]
  have := pow_mono h1
  show (1 : Nat) < _
  omega
section
variable {C : Cs} {S : Sto} {Q : DK} {E : Addr → Sto → Prop} {x y : Rat}
theorem call_plusQ : sp_plus C [NQ x, NQ y] S Q E = (IntMulOk x.num y.den ∧ IntMulOk y.num x.den ∧ IntMulOk (x.den : Int) y.den ∧ Q (NQ (x + y)) S) := by
  rw [call_plus, NN_nrm _ (Int.mul_ne_zero (den_ne x) (den_ne y)), add_divInt]
  exact propext ⟨fun h => h.2.2, fun h => ⟨den_ne x, den_ne y, h⟩⟩
theorem call_timesQ : sp_times C [NQ x, NQ y] S Q E = (IntMulOk x.num y.num ∧ IntMulOk (x.den : Int) y.den ∧ Q (NQ (x * y)) S) := by
  rw [call_times, NN_nrm _ (Int.mul_ne_zero (den_ne x) (den_ne y)), mul_divInt]
  exact propext ⟨fun h => h.2.2, fun h => ⟨den_ne x, den_ne y, h⟩⟩
theorem call_plusR {n m : Nat} (hx : RB n x) (hy : RB m y) (h : n + m ≤ 100000000) (q : Q (NQ (x + y)) S) : sp_plus C [NQ x, NQ y] S Q E := by
  rw [call_plusQ]
  exact ⟨mul_ok hx.num hy.den h, mul_ok hy.num hx.den (by omega), mul_ok hx.den hy.den h, q⟩
theorem call_timesR {n m : Nat} (hx : RB n x) (hy : RB m y) (h : n + m ≤ 100000000) (q : Q (NQ (x * y)) S) : sp_times C [NQ x, NQ y] S Q E := by
  rw [call_timesQ]
  exact ⟨mul_ok hx.num hy.num h, mul_ok hx.den hy.den h, q⟩
theorem oNe_qq : oNe (NQ x) (NQ y) S Q = Q (.bl (!decide (x = y))) S := by
  show oNe (PT [x.num, (x.den : Int)]) (PT [y.num, (y.den : Int)]) S Q = _
  rw [oNe_pp]
  congr 2
  congr 1
  rw [decide_eq_decide]
  constructor
  · intro h
    rw [List.cons.injEq, List.cons.injEq] at h
    exact Rat.ext h.1 (by have := h.2.1; omega)
  · intro h; rw [h]
end
/-! ### worths at a number -/
def evQ : List Int → Rat → Rat
  | [], _ => 0
  | c :: cs, x => (c : Rat) + x * evQ cs x
theorem evQ_of_zero : ∀ (a : List Int) (x : Rat), (∀ k, co a k = 0) → evQ a x = 0
  | [], _, _ => rfl
  | c :: cs, x, h => by
    show (c : Rat) + x * evQ cs x = 0
    rw [evQ_of_zero cs x (fun k => by rw [← co_succ c]; exact h (k + 1)), show c = 0 from h 0]
    grind
theorem evQ_addL : ∀ (a b : List Int) (x : Rat), evQ (addL a b) x = evQ a x + evQ b x
  | [], b, x => by show evQ b x = 0 + _; grind
  | c :: cs, [], x => by show evQ (c :: cs) x = _ + 0; grind
  | c :: cs, d :: ds, x => by
    show ((c + d : Int) : Rat) + x * evQ (addL cs ds) x = ((c : Rat) + x * evQ cs x) + ((d : Rat) + x * evQ ds x)
    rw [evQ_addL cs ds x, Rat.intCast_add]
    grind
theorem evQ_scale (k : Int) : ∀ (a : List Int) (x : Rat), evQ (a.map (fun c => k * c)) x = (k : Rat) * evQ a x
  | [], x => by show (0 : Rat) = k * 0; grind
  | c :: cs, x => by
    show ((k * c : Int) : Rat) + x * evQ (cs.map _) x = k * ((c : Rat) + x * evQ cs x)
    rw [evQ_scale k cs x, Rat.intCast_mul]
    grind
theorem evQ_congr {a b : List Int} (h : ∀ k, co a k = co b k) (x : Rat) : evQ a x = evQ b x := by
  have e : evQ (addL a (b.map fun c => -1 * c)) x = 0 := evQ_of_zero _ x fun k => by
    rw [co_addL, co_map (by decide), h]
    omega
  rw [evQ_addL, evQ_scale] at e
  have e1 : ((-1 : Int) : Rat) = -1 := rfl
  rw [e1] at e
  grind
theorem evQ_cutI (a : List Int) (x : Rat) : evQ (cutI a) x = evQ a x := evQ_congr (co_cutI a) x
theorem evQ_mulL : ∀ (a b : List Int) (x : Rat), evQ (mulL a b) x = evQ a x * evQ b x
  | [], b, x => by show (0 : Rat) = 0 * _; grind
  | c :: cs, b, x => by
    show evQ (addL (b.map fun y => c * y) (0 :: mulL cs b)) x = ((c : Rat) + x * evQ cs x) * evQ b x
    rw [evQ_addL, evQ_scale]
    show c * evQ b x + (((0 : Int) : Rat) + x * evQ (mulL cs b) x) = _
    rw [evQ_mulL cs b x]
    have e0 : ((0 : Int) : Rat) = 0 := rfl
    rw [e0]
    grind
theorem evQ_pmul (a b : List Int) (x : Rat) : evQ (pmul a b) x = evQ a x * evQ b x := by unfold pmul; rw [evQ_cutI, evQ_mulL]
theorem evQ_paddI (a b : List Int) (x : Rat) : evQ (paddI a b) x = evQ a x + evQ b x := by unfold paddI; rw [evQ_cutI, evQ_addL]
/-- what holds at all whole numbers holds of the figures -/
theorem evQ_of_ev {a b : List Int} (h : ∀ t, ev a t = ev b t) (x : Rat) : evQ a x = evQ b x := evQ_congr (co_of_ev h) x
/-! ### slopes -/
def dv : List Int → Int → Int
  | [], _ => 0
  | _ :: xs, t => ev xs t + t * dv xs t
def slopeI (a : List Int) : List Int := lin (fun k => ((k : Int) + 1) * co a (k + 1)) (a.length - 1)
theorem co_slopeI (a : List Int) (k : Nat) : co (slopeI a) k = ((k : Int) + 1) * co a (k + 1) := by
  unfold slopeI
  rw [co_lin]
  split
  · rfl
  · rw [co_ge (a := a) (by omega), Int.mul_zero]
theorem ev_slopeI : ∀ (a : List Int) (t : Int), ev (slopeI a) t = dv a t
  | [], t => rfl
  | x :: xs, t => by
    show _ = ev xs t + t * dv xs t
    rw [← ev_slopeI xs t]
    have e : ∀ t, ev (slopeI (x :: xs)) t = ev (addL xs (0 :: slopeI xs)) t := fun t => ev_congr (fun k => by
      rw [co_slopeI, co_addL, co_succ]
      cases k with
      | zero => rw [co_zero]; simp
      | succ k => rw [co_succ, co_slopeI]; push_cast; grind) t
    rw [e, ev_addL]
    show _ + (0 + t * _) = _
    omega
theorem dv_addL : ∀ (a b : List Int) (t : Int), dv (addL a b) t = dv a t + dv b t
  | [], b, t => by show dv b t = 0 + _; omega
  | x :: xs, [], t => by show dv (x :: xs) t = _ + 0; omega
  | x :: xs, y :: ys, t => by
    show ev (addL xs ys) t + t * dv (addL xs ys) t = (ev xs t + t * dv xs t) + (ev ys t + t * dv ys t)
    rw [ev_addL, dv_addL xs ys t]
    grind
theorem dv_scale (c : Int) : ∀ (a : List Int) (t : Int), dv (a.map (fun x => c * x)) t = c * dv a t
  | [], t => by show (0 : Int) = c * 0; omega
  | x :: xs, t => by
    show ev (xs.map _) t + t * dv (xs.map _) t = c * (ev xs t + t * dv xs t)
    rw [ev_scale, dv_scale c xs t]
    grind
theorem dv_mulL : ∀ (a b : List Int) (t : Int), dv (mulL a b) t = dv a t * ev b t + ev a t * dv b t
  | [], b, t => by show (0 : Int) = 0 * _ + 0 * _; omega
  | x :: xs, b, t => by
    show dv (addL (b.map fun y => x * y) (0 :: mulL xs b)) t = (ev xs t + t * dv xs t) * ev b t + (x + t * ev xs t) * dv b t
    rw [dv_addL, dv_scale]
    show x * dv b t + (ev (mulL xs b) t + t * dv (mulL xs b) t) = _
    rw [ev_mulL, dv_mulL xs b t]
    grind
theorem dv_congr {a b : List Int} (h : ∀ t, ev a t = ev b t) (t : Int) : dv a t = dv b t := by
  rw [← ev_slopeI, ← ev_slopeI]
  exact ev_congr (fun k => by rw [co_slopeI, co_slopeI, co_of_ev h]) t
theorem slopeI_trim {a : List Int} (h : Trim a) : Trim (slopeI a) := by
  by_cases e : a.length ≤ 1
  · have : slopeI a = [] := by unfold slopeI lin; rw [show a.length - 1 = 0 by omega]; rfl
    rw [this]; exact trim_nil
  · have ha : a ≠ [] := by rintro rfl; simp at e
    have hl : (slopeI a).length = a.length - 1 := by unfold slopeI lin; simp
    have hs : slopeI a ≠ [] := by intro z; rw [z] at hl; simp at hl; omega
    unfold Trim
    rw [← co_last hs, hl, co_slopeI, show a.length - 1 - 1 + 1 = a.length - 1 by omega, co_last ha]
    exact Int.mul_ne_zero (by omega) h
theorem slopeI_len (a : List Int) : (slopeI a).length = a.length - 1 := by unfold slopeI lin; simp
end DL
end L2

/-! SPe: worths, slopes, drawn numbers: what is promised. -/
namespace L2
namespace DL
open PySem PySem.Spec PyProof PyProof.Rows
def sp_pslope : DSp := fun ds S Q _ => ∃ a, ds = [PT a] ∧ a.length ≤ 1000 ∧ Q (PT (slopeI a)) S
def sp_lslope : DSp := fun ds S Q _ => ∃ a, ds = [PT a] ∧ a.length ≤ 1000 ∧ Trim a ∧ Q (PT (slopeI a)) S
def sp_worth (C : Cs) : DSp := fun ds S Q _ => ∃ a x, ds = [PT a, NQ x] ∧ a.length ≤ 1000 ∧ (∃ n m, Bits n a ∧ RB m x ∧ 1 ≤ n ∧ (a.length + 2) * (n + m + 1) ≤ 50000000) ∧ Q (NQ (evQ a x)) S
def sp_lworth : DSp := fun ds S Q _ => ∃ a x, ds = [PT a, NQ x] ∧ a.length ≤ 1000 ∧ (∃ n m, Bits n a ∧ RB m x ∧ 1 ≤ n ∧ (a.length + 2) * (n + m + 1) ≤ 50000000) ∧ Q (NQ (evQ a x)) S
def sp_lnumber : DSp := fun ds S Q _ => ∃ p most, ds = [.ref p, .int most] ∧ Purse S p ∧ 2 ≤ most ∧ most < 10 ^ 39 ∧ ∀ x S', (∀ n : Nat, 4 ≤ n → most < 2 ^ n → RB n x) → But p S S' → Purse S' p → Q (NQ x) S'
theorem nq_list {a b : List Int} {x y : Rat} (h : [PT a, NQ x] = [PT b, NQ y]) : a = b ∧ x = y := by
  rw [List.cons.injEq, List.cons.injEq] at h
  exact ⟨pt_inj h.1, NQ_inj h.2.1⟩
section
variable {C : Cs} {S : Sto} {Q : DK} {E : Addr → Sto → Prop} {a : List Int} {x : Rat} {p : Addr} {most : Int}
theorem call_pslope : sp_pslope [PT a] S Q E = (a.length ≤ 1000 ∧ Q (PT (slopeI a)) S) :=
  propext ⟨fun ⟨_, e, h⟩ => by rw [List.cons.injEq] at e; obtain rfl := pt_inj e.1; exact h, fun h => ⟨_, rfl, h⟩⟩
theorem call_lslope : sp_lslope [PT a] S Q E = (a.length ≤ 1000 ∧ Trim a ∧ Q (PT (slopeI a)) S) :=
  propext ⟨fun ⟨_, e, h⟩ => by rw [List.cons.injEq] at e; obtain rfl := pt_inj e.1; exact h, fun h => ⟨_, rfl, h⟩⟩
theorem call_worth : sp_worth C [PT a, NQ x] S Q E = (a.length ≤ 1000 ∧ (∃ n m, Bits n a ∧ RB m x ∧ 1 ≤ n ∧ (a.length + 2) * (n + m + 1) ≤ 50000000) ∧ Q (NQ (evQ a x)) S) :=
  propext ⟨fun ⟨_, _, e, h⟩ => by obtain ⟨rfl, rfl⟩ := nq_list e; exact h, fun h => ⟨_, _, rfl, h⟩⟩
theorem call_lworth : sp_lworth [PT a, NQ x] S Q E = (a.length ≤ 1000 ∧ (∃ n m, Bits n a ∧ RB m x ∧ 1 ≤ n ∧ (a.length + 2) * (n + m + 1) ≤ 50000000) ∧ Q (NQ (evQ a x)) S) :=
  propext ⟨fun ⟨_, _, e, h⟩ => by obtain ⟨rfl, rfl⟩ := nq_list e; exact h, fun h => ⟨_, _, rfl, h⟩⟩
theorem call_lnumber : sp_lnumber [.ref p, .int most] S Q E = (Purse S p ∧ 2 ≤ most ∧ most < 10 ^ 39 ∧ ∀ x S', (∀ n : Nat, 4 ≤ n → most < 2 ^ n → RB n x) → But p S S' → Purse S' p → Q (NQ x) S') :=
  propext ⟨fun ⟨_, _, e, h⟩ => by cases e; exact h, fun h => ⟨_, _, rfl, h⟩⟩
end
end DL
end L2

namespace L2
namespace DL
open PySem PySem.Spec PyProof PyProof.Rows
local macro_rules | `(tactic| walk_at "dl") => `(tactic| simp only [sSeq, sSet, sIf, sRet, sPar, sNext, sDrop, sAsg, sRaise, eBin, eUn, eVar, eC, eB, eM, eM0, eTup, eLst, eCall, eAndV, eOrV, eNotV, eIf, aCons, aNil, tVal, tAndD, tOrD, tNotD, cBl, dName, dSub, dTup, dLst, dCons, dNil,
  onI_ii, onIC_ii, oAdd_ii, oAdd_tt, oIadd_ii, oMul_ii, oNeg_i, oEq_ii, oNe_ii, oIx_t, oIx_v, oIx_r, oLen_t, oLen_v, oLen_r, oAbs_i, o2I_ii, oInt_i, oInt_b, oTuple_t, oTuple_r, isi_int, isi_bool, isi_tup, oSet_r, oAppend_r, isL_r, iLstD_r, lstAt_sup, rdAt_sup, ix0, ix1, ix2, ix3, sFor, iRange1, iRange2,
  call_divisor, call_number, call_plus, call_minus, call_times, call_over, call_draw, call_whole, call_isWhole, call_isNumber, call_low, call_told, call_lover, call_right,
  call_content, call_parted, call_plain, call_isPoly, call_lpoly, oEq_pp, oNe_pp, oEq_p0, oNe_p0, iTupD, eLc, oMul_t, eSl, pNone, pSome, cSl, sAug, eLstRg1, tYesD, sPar3, call_figAt, call_pplus, call_pminus, call_scaled, call_raised, call_lsum, call_lproduct, call_ptimes, call_head, call_restBy, call_longdiv, call_lleft, call_common, call_lcommon, call_pslope, call_lslope, call_worth, call_lworth, call_lnumber, oNe_qq, iEnumTup, iRevTup, iRange2,
  bodyEnds, bodyEX, List.set_cons_zero, List.set_cons_succ, List.getElem?_cons_zero, List.getElem?_cons_succ, decide_eq_true_eq, Bool.not_eq_true', decide_eq_false_iff_not, List.nil_append, List.append_nil, List.cons_append, Bool.false_eq_true, if_false, if_true, true_and, and_true])
def t_poly_times_3 : DS :=
  (sRet (eB oTuple (aCons (eVar 2) aNil)))
def t_poly_times_2 : DS :=
  (sSeq (sFor (iEnumTup (eVar 0)) (dTup 2 (dCons (dName 3) (dCons (dName 4) dNil))) (sFor (iEnumTup (eVar 1)) (dTup 2 (dCons (dName 5) (dCons (dName 6) dNil))) (sAugS (eVar 2) (eBin oAdd (eVar 3) (eVar 5)) (eBin oMul (eVar 4) (eVar 6)) oIadd)))
  (t_poly_times_3))
def t_poly_times_1 : DS :=
  (sSeq (sSet 2 (eBin oMul (eLst (aCons (eC (.int 0)) aNil)) (eBin oSub (eBin oAdd (eB oLen (aCons (eVar 0) aNil)) (eB oLen (aCons (eVar 1) aNil))) (eC (.int 1)))))
  (t_poly_times_2))
/-- poly_times: 0 one, 1 other, 2 found, 3 power, 4 figure, 5 second, 6 factor -/
def t_poly_times : DS :=
  (sSeq (sIf (tOrD (tVal (eBin oEq (eVar 0) (eTup aNil))) (tVal (eBin oEq (eVar 1) (eTup aNil)))) (sRet (eTup aNil)) sNext)
  (t_poly_times_1))
/-- poly_slope: 0 one, 1 power -/
def t_poly_slope : DS :=
  (sRet (eB oTuple (aCons (eLc (iRange2 (aCons (eC (.int 1)) (aCons (eB oLen (aCons (eVar 0) aNil)) aNil))) (dName 1) tYesD (eBin oMul (eVar 1) (eBin oIx (eVar 0) (eVar 1))) [1]) aNil)))
/-- worth: 0 one, 1 at, 2 found, 3 figure -/
def t_worth (C : Cs) : DS :=
  (sSeq (sSet 2 (eTup (aCons (eC (.int 0)) (aCons (eC (.int 1)) aNil))))
  (sSeq (sFor (iRevTup (eVar 0)) (dName 3) (sSet 2 (eCall (sp_plus C) [] (aCons (eCall (sp_times C) [] (aCons (eVar 2) (aCons (eVar 1) aNil))) (aCons (eTup (aCons (eVar 3) (aCons (eC (.int 1)) aNil))) aNil)))))
  (sRet (eVar 2))))
def t__law_number_2 : DS :=
  (sRet (eCall sp_low [] (aCons (eCall sp_whole [] (aCons (eVar 0) (aCons (eVar 1) aNil))) (aCons (eVar 2) aNil))))
/-- _law_number: 0 _law_purse_here, 1 _law_most, 2 _law_bottom -/
def t__law_number : DS :=
  (sSeq (sSet 2 (eBin oAdd (eC (.int 1)) (eCall sp_draw [] (aCons (eVar 0) (aCons (eC (.int 9)) aNil)))))
  (sSeq (sIf (tVal (eBin oEq (eCall sp_draw [] (aCons (eVar 0) (aCons (eC (.int 8)) aNil))) (eC (.int 3)))) (sSet 2 (eBin oAdd (eC (.int 1)) (eCall sp_draw [] (aCons (eVar 0) (aCons (eBin oSub (eVar 1) (eC (.int 1))) aNil))))) sNext)
  (t__law_number_2)))
/-- _law_slope: 0 _law_one, 1 _law_k -/
def t__law_slope : DS :=
  (sRet (eCall sp_cut [] (aCons (eLc (iRange2 (aCons (eC (.int 1)) (aCons (eB oLen (aCons (eVar 0) aNil)) aNil))) (dName 1) tYesD (eBin oMul (eVar 1) (eBin oIx (eVar 0) (eVar 1))) [1]) aNil)))
def t__law_worth_2 : DS :=
  (sRet (eCall sp_low [] (aCons (eBin oMul (eVar 2) (eBin oIx (eVar 1) (eC (.int 1)))) (aCons (eVar 3) aNil))))
/-- _law_worth: 0 _law_one, 1 _law_at, 2 _law_top, 3 _law_power, 4 _law_entry -/
def t__law_worth : DS :=
  (sSeq (sAsg (eTup (aCons (eC (.int 0)) (aCons (eC (.int 1)) aNil))) (dTup 2 (dCons (dName 2) (dCons (dName 3) dNil))))
  (sSeq (sFor (iRevTup (eVar 0)) (dName 4) (sSeq (sSet 2 (eBin oAdd (eBin oMul (eVar 2) (eBin oIx (eVar 1) (eC (.int 0)))) (eBin oMul (eVar 4) (eVar 3))))
  (sSet 3 (eBin oMul (eVar 3) (eBin oIx (eVar 1) (eC (.int 1)))))))
  (t__law_worth_2)))
theorem ptimes_3 {EX : EXK} {Q : DK} {S S0 : Sto} {a b f : List Int} {p : Addr} {o3 o4 o5 o6 : Option D} (s0 : Sub S (sup S0 p (.lst (f.map D.int)))) (h : Q (PT f) S) :
    t_poly_times_3 EX (bodyEnds Q) [some (PT a), some (PT b), some (.ref p), o3, o4, o5, o6] (sup S0 p (.lst (f.map D.int))) := by
  unfold t_poly_times_3
  walk_at "dl"
  exact ⟨S, s0, h⟩
theorem ptimes_2 {EX : EXK} {Q : DK} {S S0 : Sto} {a b : List Int} {p : Addr} (ta : Trim a) (tb : Trim b) (na : a ≠ []) (nb : b ≠ []) (ha : a.length ≤ 1000) (hb : b.length ≤ 1000) (hm : ∀ x ∈ a, ∀ y ∈ b, IntMulOk x y) {o3 o4 o5 o6 : Option D}
    (s0 : ∀ f : List Int, Sub S (sup S0 p (.lst (f.map D.int)))) (h : Q (PT (pmul a b)) S) :
    t_poly_times_2 EX (bodyEnds Q) [some (PT a), some (PT b), some (.ref p), o3, o4, o5, o6] (sup S0 p (.lst ((List.replicate (a.length + b.length - 1) 0).map D.int))) := by
  have la := List.length_pos_iff.mpr na
  have lb := List.length_pos_iff.mpr nb
  unfold t_poly_times_2
  simp only [sSeq, sFor, iEnumTup, eVar, List.getElem?_cons_zero, List.getElem?_cons_succ]
  generalize hN : a.length + b.length - 1 = N
  refine for_enum (fun i δ S' => ∃ (f : List Int) (o3 o4 o5 o6 : Option D), f.length = N ∧ (∀ t, ev f t = ev (a.take i) t * ev b t) ∧ δ = [some (PT a), some (PT b), some (.ref p), o3, o4, o5, o6] ∧ S' = sup S0 p (.lst (f.map D.int))) ?_ ?_
    ⟨List.replicate N 0, o3, o4, o5, o6, by simp, fun t => by rw [ev_zeros]; show (0 : Int) = ev [] t * _; simp [ev], rfl, rfl⟩
  · rintro i δ S' T' hi ⟨f, o3, o4, o5, o6, hf, he, rfl, rfl⟩ nx ct rt bk
    simp only [sFor, iEnumTup, eVar, List.set_cons_zero, List.set_cons_succ, List.getElem?_cons_zero, List.getElem?_cons_succ]
    refine for_enum (fun j δ S' => ∃ (f : List Int) (o5 o6 : Option D), f.length = N ∧ (∀ t, ev f t = ev (a.take i) t * ev b t + co a i * t ^ i * ev (b.take j) t) ∧ δ = [some (PT a), some (PT b), some (.ref p), some (.int (i : Int)), some (.int (co a i)), o5, o6] ∧ S' = sup S0 p (.lst (f.map D.int))) ?_ ?_
      ⟨f, o5, o6, hf, fun t => by rw [he t]; show _ = _ + _ * ev [] t; simp [ev], rfl, rfl⟩
    · rintro j δ S' T2 hj ⟨f, o5, o6, hf, he, rfl, rfl⟩ nx2 ct2 rt2 bk2
      have hai : co a i ∈ a := by
        have : co a i = a[i] := by simp [co, hi]
        rw [this]; exact List.getElem_mem hi
      have hbj : co b j ∈ b := by
        have : co b j = b[j] := by simp [co, hj]
        rw [this]; exact List.getElem_mem hj
      refine augS_at (p := p) (f := f) (k := i + j) (v := co a i * co b j) (fun S' Q h => h) (fun S' Q h => ?_) (fun S' Q h => ⟨hm _ hai _ hbj, h⟩) sup_same (by omega) ?_
      · show Q (.int ((i : Int) + (j : Int))) S'
        rw [← Int.natCast_add]
        exact h
      · rw [sup_sup]
        refine nx2 _ _ ⟨_, _, _, by rw [List.length_set]; exact hf, fun t => ?_, rfl, rfl⟩
        rw [ev_set t _ f _ (by omega), he t, ev_take_succ, Int.pow_add]
        grind
    · rintro δ S' ⟨f, o5, o6, hf, he, rfl, rfl⟩
      refine nx _ _ ⟨f, _, _, _, _, hf, fun t => ?_, rfl, rfl⟩
      rw [he t, List.take_length, ev_take_succ]
      grind
  · rintro δ S' ⟨f, o3, o4, o5, o6, hf, he, rfl, rfl⟩
    have he' : ∀ t, ev f t = ev (pmul a b) t := fun t => by rw [he t, List.take_length, ev_pmul]
    have hl := pmul_len ta tb na nb
    have tf : Trim f := by
      have nf : f ≠ [] := by rintro rfl; simp at hf; omega
      unfold Trim
      rw [← co_last nf, hf, ← hN, ← hl, co_of_ev he', co_last (pmul_ne ta tb na nb)]
      exact pmul_trim a b
    have e : f = pmul a b := ev_ext tf (pmul_trim _ _) he'
    subst e
    exact ptimes_3 (EX := EX) (a := a) (b := b) (o3 := o3) (o4 := o4) (o5 := o5) (o6 := o6) (s0 _) h
theorem sem_poly_times : ∀ ds S Q E, sp_ptimes ds S Q E → t_poly_times (bodyEX E) (bodyEnds Q) (dstart ["one", "other", "found", "power", "figure", "second", "factor"] ds) S := by
  rintro ds S Q E ⟨a, b, rfl, ha, hb, ta, tb, hm, h⟩
  show t_poly_times (bodyEX E) (bodyEnds Q) [some (PT a), some (PT b), none, none, none, none, none] S
  unfold t_poly_times
  walk_at "dl"
  refine ⟨sz0, ?_⟩
  have zero : a = [] ∨ b = [] → pmul a b = [] := fun z => nil_of_ev (pmul_trim _ _) fun t => by
    rw [ev_pmul]
    rcases z with z | z
    · subst z; show 0 * _ = 0; rw [Int.zero_mul]
    · subst z; show _ * 0 = 0; rw [Int.mul_zero]
  by_cases na : a = []
  · rw [if_pos na]
    rw [zero (.inl na)] at h
    exact ⟨sz0, S, Sub.refl S, h⟩
  · rw [if_neg na]
    refine ⟨sz0, ?_⟩
    by_cases nb : b = []
    · rw [if_pos nb]
      rw [zero (.inr nb)] at h
      exact ⟨sz0, S, Sub.refl S, h⟩
    · rw [if_neg nb]
      have la := List.length_pos_iff.mpr na
      have lb := List.length_pos_iff.mpr nb
      unfold t_poly_times_1
      simp only [sSeq, sSet, eBin, eLst, eC, aCons, aNil, eB, eVar, List.getElem?_cons_zero, List.getElem?_cons_succ, oLen_t, oAdd_ii, onI_ii, List.length_map, List.length_cons, List.length_nil]
      refine ⟨sz1, fun p np => ?_⟩
      refine ⟨[.int 0], sup_same, by omega, by omega, ?_, fun q nq => ?_⟩
      · simp only [List.length_cons, List.length_nil]
        exact size_le (by omega)
      have e : (List.replicate ((a.length : Int) + (b.length : Int) - 1).toNat [D.int 0]).flatten = (List.replicate (a.length + b.length - 1) (0 : Int)).map D.int := by
        rw [show ((a.length : Int) + (b.length : Int) - 1).toNat = a.length + b.length - 1 by omega]
        exact flat_zeros _
      rw [e]
      simp only [List.set_cons_zero, List.set_cons_succ]
      exact ptimes_2 ta tb na nb ha hb hm (fun f => (Sub.new np).trans (Sub.new nq)) h
theorem irng1 (n : Nat) : irng 1 n = ((List.range n).map fun (i : Nat) => ((i : Int) + 1)).map D.int := by
  rw [irng_eq]
  congr 1
  apply List.map_congr_left
  intro i _
  omega
theorem slope_walk {EX : EXK} {S : Sto} {Q : DK} {a : List Int} {o1 : Option D} (ha : a.length ≤ 1000) (h : ∀ p, S p = none → Q (.ref p) (sup S p (.lst ((slopeI a).map D.int)))) :
    eLc (iRange2 (aCons (eC (.int 1)) (aCons (eB oLen (aCons (eVar 0) aNil)) aNil))) (dName 1) tYesD (eBin oMul (eVar 1) (eBin oIx (eVar 0) (eVar 1))) [1] EX [some (PT a), o1] S Q := by
  simp only [eLc, iRange2, aCons, aNil, eC, eB, eVar, List.getElem?_cons_zero, oLen_t, List.length_map]
  refine ⟨⟨by decide, by decide, by omega, by omega⟩, fun p np => ?_⟩
  rw [irng1]
  refine lc_ints (f := fun k => k * co a k.toNat) _ [] (fun _ => trivial) (by simp; omega) (fun x hx acc' Q' q => ?_) ?_
  · obtain ⟨i, hi, rfl⟩ := List.mem_map.mp hx
    have hi' := List.mem_range.mp hi
    simp only [dwipe]
    walk_at "dl"
    have e : (i : Int) + 1 = ((i + 1 : Nat) : Int) := by omega
    have e2 : ix (a.map D.int) ((i : Int) + 1) = some (.int (co a (i + 1))) := by rw [e]; exact cut_at (by omega)
    rw [e2]
    have e3 : ((i : Int) + 1).toNat = i + 1 := by omega
    rw [e3] at q
    exact ⟨mulok_left (by omega) (by omega), q⟩
  · have e : (((List.range ((a.length : Int) - 1).toNat).map fun (i : Nat) => ((i : Int) + 1)).map fun k => k * co a k.toNat) = slopeI a := by
      unfold slopeI lin
      rw [List.map_map, show ((a.length : Int) - 1).toNat = a.length - 1 by omega]
      apply List.map_congr_left
      intro i _
      show ((i : Int) + 1) * co a ((i : Int) + 1).toNat = _
      rw [show ((i : Int) + 1).toNat = i + 1 by omega]
    rw [List.nil_append, e]
    exact h p np
theorem sem_poly_slope : ∀ ds S Q E, sp_pslope ds S Q E → t_poly_slope (bodyEX E) (bodyEnds Q) (dstart ["one", "power"] ds) S := by
  rintro ds S Q E ⟨a, rfl, ha, h⟩
  show t_poly_slope (bodyEX E) (bodyEnds Q) [some (PT a), none] S
  unfold t_poly_slope
  simp only [sRet, eB, aCons, aNil]
  refine slope_walk ha fun p np => ?_
  walk_at "dl"
  exact ⟨S, Sub.new np, h⟩
theorem sem__law_slope : ∀ ds S Q E, sp_lslope ds S Q E → t__law_slope (bodyEX E) (bodyEnds Q) (dstart ["_law_one", "_law_k"] ds) S := by
  rintro ds S Q E ⟨a, rfl, ha, ta, h⟩
  show t__law_slope (bodyEX E) (bodyEnds Q) [some (PT a), none] S
  unfold t__law_slope
  simp only [sRet, eCall, aCons, aNil]
  refine slope_walk ha fun p np => ?_
  refine call_cutL (a := slopeI a) rdAt_sup ⟨S, Sub.new np, ?_⟩
  rw [cutI_of_trim (slopeI_trim ta)]
  exact h
/-- worths from behind -/
theorem worth_bits {a : List Int} {x : Rat} {n m : Nat} (ba : Bits n a) (bx : RB m x) (h1 : 1 ≤ n) : RB (a.length * (n + m + 1) + 1) (evQ a x) := by
  induction a with
  | nil => exact ⟨by show (0 : Int).natAbs < _; exact two_pos _, by show 1 < 2 ^ (([] : List Int).length * (n + m + 1) + 1); rw [List.length_nil, Nat.zero_mul]; decide⟩
  | cons c cs ih =>
    have b1 : Bits n cs := fun k => by rw [← co_succ c]; exact ba (k + 1)
    have ih := ih b1
    show RB _ ((c : Rat) + x * evQ cs x)
    refine RB.add (RB.int (ba 0) h1) (bx.mul ih (Nat.le_refl _)) ?_
    simp only [List.length_cons]
    rw [Nat.add_mul, Nat.one_mul]
    omega
theorem rev_last {pre : List Int} {d : D} {l : List D} (h : (pre.map D.int).reverse = d :: l) : ∃ q c, pre = q ++ [c] ∧ d = .int c ∧ l = (q.map D.int).reverse := by
  rcases List.eq_nil_or_concat pre with z | ⟨q, c, z⟩
  · subst z; cases h
  · rw [List.concat_eq_append] at z
    subst z
    rw [List.map_append, List.reverse_append] at h
    have h' : D.int c :: (q.map D.int).reverse = d :: l := h
    rw [List.cons.injEq] at h'
    exact ⟨q, c, rfl, h'.1.symm, h'.2.symm⟩
theorem sem_worth {C : Cs} : ∀ ds S Q E, sp_worth C ds S Q E → t_worth C (bodyEX E) (bodyEnds Q) (dstart ["one", "at", "found", "figure"] ds) S := by
  rintro ds S Q E ⟨a, x, rfl, ha, ⟨n, m, ba, bx, h1, hnm⟩, h⟩
  show t_worth C (bodyEX E) (bodyEnds Q) [some (PT a), some (NQ x), none, none] S
  unfold t_worth
  simp only [sSeq, sSet, eTup, eC, aCons, aNil, sFor, iRevTup, eVar, List.set_cons_zero, List.set_cons_succ, List.getElem?_cons_zero]
  refine ⟨sz2, ?_⟩
  refine for_inv (fun l δ S' => ∃ (pre suf : List Int) (o3 : Option D), a = pre ++ suf ∧ l = (pre.map D.int).reverse ∧ δ = [some (PT a), some (NQ x), some (NQ (evQ suf x)), o3] ∧ S' = S) (fun _ _ _ _ => trivial) ?_ ?_ _ _ _
    ⟨a, [], none, by simp, rfl, rfl, rfl⟩
  · rintro d l δ S' T' ⟨pre, suf, o3, rfl, e, rfl, rfl⟩ nx ct rt bk
    obtain ⟨q, c, rfl, rfl, rfl⟩ := rev_last e.symm
    have bs : Bits n suf := Bits.of_mem fun y hy => ba.mem (List.mem_append_right _ hy)
    have hc : c.natAbs < 2 ^ n := ba.mem (by simp)
    have w := worth_bits bs bx h1
    have hl : suf.length * (n + m + 1) ≤ ((q ++ [c]) ++ suf).length * (n + m + 1) := Nat.mul_le_mul_right _ (by simp; omega)
    rw [Nat.add_mul] at hnm
    simp only [dName, sSet, eCall, eVar, eTup, eC, aCons, aNil, List.set_cons_zero, List.set_cons_succ, List.getElem?_cons_zero, List.getElem?_cons_succ, List.append_nil]
    refine call_timesR w bx (by omega) ?_
    refine ⟨sz2, ?_⟩
    show sp_plus C [NQ (evQ suf x * x), N2 c 1] _ _ _
    rw [← NQ_int]
    refine call_plusR (w.mul bx (Nat.le_refl _)) (RB.int hc h1) (by omega) ?_
    have e : evQ suf x * x + (c : Rat) = evQ (c :: suf) x := by show _ = (c : Rat) + x * evQ suf x; grind
    rw [e]
    exact nx _ _ ⟨q, c :: suf, _, by simp, rfl, rfl, rfl⟩
  · rintro δ S' ⟨pre, suf, o3, rfl, e, rfl, rfl⟩
    have : pre = [] := by
      have := congrArg List.length e
      simpa using this.symm
    subst this
    exact ⟨S', Sub.refl S', h⟩
theorem lworth_2 {EX : EXK} {Q : DK} {S : Sto} {a : List Int} {x : Rat} {top pw : Int} {o4 : Option D} (hp : pw ≠ 0) (he : (top : Rat) * ((x.den : Int) : Rat) = evQ a x * pw) (hm : IntMulOk top x.den) (h : Q (NQ (evQ a x)) S) :
    t__law_worth_2 EX (bodyEnds Q) [some (PT a), some (NQ x), some (.int top), some (.int pw), o4] S := by
  unfold t__law_worth_2
  walk_at "dl"
  refine ⟨hm, hp, ?_⟩
  have e : Rat.divInt (top * (x.den : Int)) pw = evQ a x := by
    rw [Rat.divInt_eq_div, Rat.intCast_mul]
    have hp' : (pw : Rat) ≠ 0 := by
      intro z
      exact hp (Rat.intCast_eq_zero_iff.mp z)
    rw [he]
    grind
  rw [NN_nrm _ hp, e]
  exact ⟨S, Sub.refl S, h⟩
theorem sem__law_worth : ∀ ds S Q E, sp_lworth ds S Q E → t__law_worth (bodyEX E) (bodyEnds Q) (dstart ["_law_one", "_law_at", "_law_top", "_law_power", "_law_entry"] ds) S := by
  rintro ds S Q E ⟨a, x, rfl, ha, ⟨n, m, ba, bx, h1, hnm⟩, h⟩
  show t__law_worth (bodyEX E) (bodyEnds Q) [some (PT a), some (NQ x), none, none, none] S
  unfold t__law_worth
  walk_at "dl"
  refine ⟨sz2, rfl, ?_⟩
  rw [Nat.add_mul] at hnm
  refine for_inv (fun l δ S' => ∃ (pre suf : List Int) (top : Int) (o4 : Option D), a = pre ++ suf ∧ l = (pre.map D.int).reverse ∧ (top : Rat) * ((x.den : Int) : Rat) = evQ suf x * (((x.den : Int) ^ suf.length : Int) : Rat) ∧ top.natAbs < 2 ^ (suf.length * (n + m + 1)) ∧ δ = [some (PT a), some (NQ x), some (.int top), some (.int ((x.den : Int) ^ suf.length)), o4] ∧ S' = S) (fun _ _ _ _ => trivial) ?_ ?_ _ _ _
    ⟨a, [], 0, none, by simp, rfl, ?_, by simp, rfl, rfl⟩
  · rintro d l δ S' T' ⟨pre, suf, top, o4, rfl, e, he, hb, rfl, rfl⟩ nx ct rt bk
    obtain ⟨q, c, rfl, rfl, rfl⟩ := rev_last e.symm
    have hc : c.natAbs < 2 ^ n := ba.mem (by simp)
    have hl : suf.length * (n + m + 1) ≤ ((q ++ [c]) ++ suf).length * (n + m + 1) := Nat.mul_le_mul_right _ (by simp; omega)
    have hpow : ∀ k : Nat, ((x.den : Int) ^ k).natAbs ≤ 2 ^ (k * m) := fun k => by
      rw [Int.natAbs_pow, Nat.mul_comm k m, Nat.pow_mul]
      exact Nat.pow_le_pow_left (Nat.le_of_lt bx.den) k
    have hpl : ∀ k : Nat, ((x.den : Int) ^ k).natAbs < 2 ^ (k * m + 1) := fun k => by
      have h1 := hpow k
      have h2 := two_pos (k * m)
      rw [Nat.pow_succ]
      omega
    have hsm : suf.length * m ≤ suf.length * (n + m + 1) := Nat.mul_le_mul_left _ (by omega)
    walk_at "dl"
    refine ⟨mul_ok hb bx.num (by omega), mul_ok hc (hpl _) (by omega), mul_ok (hpl _) bx.den (by omega), ?_⟩
    refine nx _ _ ⟨q, c :: suf, _, _, by simp, rfl, ?_, ?_, by rw [List.length_cons, Int.pow_succ], rfl⟩
    · have xd : x * ((x.den : Int) : Rat) = (x.num : Rat) := by
        have h1 := divInt_own x
        rw [Rat.divInt_eq_div] at h1
        have h2 : ((x.den : Int) : Rat) ≠ 0 := fun z => den_ne x (Rat.intCast_eq_zero_iff.mp z)
        generalize ((x.den : Int) : Rat) = d at *
        rw [← h1]
        grind
      show (((top * x.num + c * (x.den : Int) ^ suf.length : Int)) : Rat) * _ = ((c : Rat) + x * evQ suf x) * _
      rw [List.length_cons, Int.pow_succ, Rat.intCast_add, Rat.intCast_mul, Rat.intCast_mul, Rat.intCast_mul]
      generalize ((x.den : Int) : Rat) = d at *
      generalize (((x.den : Int) ^ suf.length : Int) : Rat) = P at *
      grind
    · have h1 := pow_lt hb bx.num (Nat.le_refl _)
      have h2 : (c * (x.den : Int) ^ suf.length).natAbs < 2 ^ (n + suf.length * m) := by
        rw [Int.natAbs_mul, Nat.pow_add]
        exact Nat.mul_lt_mul_of_lt_of_le hc (hpow _) (two_pos _)
      have h3 := pow_mono (show suf.length * (n + m + 1) + m ≤ suf.length * (n + m + 1) + n + m by omega)
      have h4 := pow_mono (show n + suf.length * m ≤ suf.length * (n + m + 1) + n + m by omega)
      rw [List.length_cons, Nat.add_mul, Nat.one_mul, ← Nat.add_assoc, Nat.pow_succ, ← Nat.add_assoc]
      omega
  · rintro δ S' ⟨pre, suf, top, o4, rfl, e, he, hb, rfl, rfl⟩
    have : pre = [] := by
      have := congrArg List.length e
      simpa using this.symm
    subst this
    simp only [List.nil_append] at *
    refine lworth_2 (Int.pow_ne_zero (den_ne x)) he (mul_ok hb bx.den (by omega)) h
  · show ((0 : Int) : Rat) * _ = 0 * _
    have e0 : ((0 : Int) : Rat) = 0 := rfl
    rw [e0]
    grind
theorem lnumber_2 {EX : EXK} {Q : DK} {S0 S : Sto} {p : Addr} {most bot : Int} (hp : Purse S p) (bp : But p S0 S) (h1 : 2 ≤ most) (h2 : most < 10 ^ 39) (b1 : 1 ≤ bot) (b2 : bot ≤ most ∨ bot ≤ 9) (h : ∀ x S', (∀ n : Nat, 4 ≤ n → most < 2 ^ n → RB n x) → But p S0 S' → Purse S' p → Q (NQ x) S') :
    t__law_number_2 EX (bodyEnds Q) [some (.ref p), some (.int most), some (.int bot)] S := by
  unfold t__law_number_2
  walk_at "dl"
  refine ⟨hp, by omega, by omega, fun w S2 hw b2' hp2 => ⟨by omega, S2, Sub.refl S2, ?_⟩⟩
  rw [NN_nrm _ (show bot ≠ 0 by omega)]
  refine h _ S2 (fun n h4 hm => RB.divInt (by omega) (drawn_bd hw hm h4) ?_) (bp.trans b2') hp2
  exact drawn_bd (most := most) (n := bot) (m := n) (by omega) hm h4
theorem sem__law_number : ∀ ds S Q E, sp_lnumber ds S Q E → t__law_number (bodyEX E) (bodyEnds Q) (dstart ["_law_purse_here", "_law_most", "_law_bottom"] ds) S := by
  rintro ds S Q E ⟨p, most, rfl, hp, h1, h2, h⟩
  show t__law_number (bodyEX E) (bodyEnds Q) [some (.ref p), some (.int most), none] S
  unfold t__law_number
  walk_at "dl"
  refine ⟨hp, by decide, by decide, fun d S1 d0 d1 b1 hp1 => ⟨hp1, by decide, by decide, fun w S2 w0 w1 b2 hp2 => ?_⟩⟩
  split
  · refine ⟨hp2, by omega, by omega, fun v S3 v0 v1 b3 hp3 => ?_⟩
    exact lnumber_2 hp3 ((b1.trans b2).trans b3) h1 h2 (by omega) (by omega) h
  · exact lnumber_2 hp2 (b1.trans b2) h1 h2 (by omega) (by omega) h
end DL
end L2

/-! GA: what a plain polynomial divides but for a number, it divides. Plain Lean. -/
namespace L2
namespace DL
open PySem PySem.Spec PyProof PyProof.Rows
/-- p divides a product only with a factor -/
def Prim (p : Int) : Prop := 2 ≤ p ∧ ∀ x y : Int, p ∣ x * y → p ∣ x ∨ p ∣ y
theorem least_prim {n p : Nat} (hp : 2 ≤ p) (hd : p ∣ n) (h : ∀ d, 2 ≤ d → d ∣ n → p ≤ d) : Prim (p : Int) := by
  refine ⟨by omega, fun x y hxy => ?_⟩
  have g1 : Nat.gcd p x.natAbs ∣ p := Nat.gcd_dvd_left _ _
  have g2 : Nat.gcd p x.natAbs ∣ x.natAbs := Nat.gcd_dvd_right _ _
  by_cases c : Nat.gcd p x.natAbs = 1
  · right
    exact dvd_of_gcd1 (m := x) hxy (by unfold Int.gcd; rw [Int.natAbs_natCast]; exact c)
  · left
    have g0 : Nat.gcd p x.natAbs ≠ 0 := fun z => by
      have := Nat.eq_zero_of_zero_dvd (z ▸ g1)
      omega
    have hle := h _ (by omega) (Nat.dvd_trans g1 hd)
    have hge := Nat.le_of_dvd (by omega) g1
    have e : Nat.gcd p x.natAbs = p := by omega
    rw [e] at g2
    exact Int.dvd_natAbs.mp (Int.natCast_dvd_natCast.mpr g2)
theorem prim_dvd : ∀ (m n : Nat), n ≤ m → 2 ≤ n → ∃ p : Int, Prim p ∧ p ∣ (n : Int) := by
  intro m n _ hn
  have key : ∀ (k : Nat), (∃ d, d ≤ k ∧ 2 ≤ d ∧ d ∣ n) → ∃ p : Nat, 2 ≤ p ∧ p ∣ n ∧ ∀ d, 2 ≤ d → d ∣ n → p ≤ d := by
    intro k
    induction k with
    | zero => rintro ⟨d, h1, h2, _⟩; omega
    | succ k ih =>
      rintro ⟨d, h1, h2, h3⟩
      by_cases c : ∃ d, d ≤ k ∧ 2 ≤ d ∧ d ∣ n
      · exact ih c
      · refine ⟨d, h2, h3, fun e he1 he2 => ?_⟩
        by_cases hek : e ≤ k
        · exact absurd ⟨e, hek, he1, he2⟩ c
        · omega
  obtain ⟨p, h1, h2, h3⟩ := key n ⟨n, Nat.le_refl n, hn, Nat.dvd_refl n⟩
  exact ⟨p, least_prim h1 h2 h3, Int.natCast_dvd_natCast.mpr h2⟩
theorem co_mulL_cons (x : Int) (xs b : List Int) (k : Nat) : co (mulL (x :: xs) b) k = x * co b k + (if k = 0 then 0 else co (mulL xs b) (k - 1)) := by
  show co (addL (b.map fun y => x * y) (0 :: mulL xs b)) k = _
  rw [co_addL, co_map (Int.mul_zero x)]
  cases k with
  | zero => rw [co_zero, if_pos rfl]
  | succ k => rw [co_succ, if_neg (by omega)]; rfl
theorem low_dvd {p : Int} {b : List Int} {n : Nat} (h : ∀ j, j < n → p ∣ co b j) : ∀ (a : List Int) (k : Nat), k < n → p ∣ co (mulL a b) k
  | [], k, _ => by show p ∣ co [] k; rw [co_nil]; exact Int.dvd_zero p
  | x :: xs, k, hk => by
    rw [co_mulL_cons]
    refine Int.dvd_add (Int.dvd_mul_of_dvd_right (h k hk)) ?_
    split
    · exact Int.dvd_zero p
    · exact low_dvd h xs (k - 1) (by omega)
theorem prim_mul {p : Int} (hp : Prim p) : ∀ (a b : List Int), (∀ k, p ∣ co (mulL a b) k) → (∀ k, p ∣ co a k) ∨ ∀ k, p ∣ co b k
  | [], b, _ => .inl fun k => by rw [co_nil]; exact Int.dvd_zero p
  | x :: xs, b, h => by
    by_cases hx : p ∣ x
    · have h2 : ∀ k, p ∣ co (mulL xs b) k := fun k => by
        have := h (k + 1)
        rw [co_mulL_cons, if_neg (by omega)] at this
        exact (Int.dvd_add_right (Int.dvd_mul_of_dvd_left hx)).mp this
      rcases prim_mul hp xs b h2 with c | c
      · left
        intro k
        cases k with
        | zero => exact hx
        | succ k => rw [co_succ]; exact c k
      · exact .inr c
    · right
      intro k
      induction k using Nat.strongRecOn with
      | _ k ih =>
        have := h k
        rw [co_mulL_cons] at this
        have h3 : p ∣ x * co b k := by
          refine (Int.dvd_add_left ?_).mp this
          split
          · exact Int.dvd_zero p
          · exact low_dvd (n := k) (fun j hj => ih j hj) xs (k - 1) (by omega)
        exact (hp.2 _ _ h3).resolve_left hx
/-- Gauss -/
theorem gauss {g : List Int} (hg : g ≠ []) (h1 : contI 0 g = 1) : ∀ (n : Nat) (k : Int) (a q : List Int), k.natAbs = n → k ≠ 0 → (∀ t, k * ev a t = ev q t * ev g t) → ∃ q', ∀ t, ev a t = ev q' t * ev g t := by
  intro n
  induction n using Nat.strongRecOn with
  | _ n ih =>
    intro k a q hk k0 e
    by_cases c : n = 1
    · have hk1 : k = 1 ∨ k = -1 := by omega
      rcases hk1 with rfl | rfl
      · exact ⟨q, fun t => by have := e t; omega⟩
      · refine ⟨scaleL (-1) q, fun t => ?_⟩
        unfold scaleL
        rw [ev_scale]
        have := e t
        grind
    · obtain ⟨p, hp, hd⟩ := prim_dvd n n (Nat.le_refl n) (by omega)
      have hdk : p ∣ k := by
        have : p ∣ (k.natAbs : Int) := by rw [hk]; exact hd
        exact Int.dvd_natAbs.mp this
      obtain ⟨k1, rfl⟩ := hdk
      have hq : ∀ j, p ∣ co q j := by
        refine (prim_mul hp q g fun j => ?_).resolve_right fun z => ?_
        · have : co (mulL q g) j = co (scaleL (p * k1) a) j := co_of_ev (fun t => by unfold scaleL; rw [ev_mulL, ev_scale]; exact (e t).symm) j
          rw [this]
          unfold scaleL
          rw [co_map (Int.mul_zero _), Int.mul_assoc]
          exact ⟨_, rfl⟩
        · have hc : p ∣ contI 0 g := dvd_contI g 0 (Int.dvd_zero p) fun x hx => by
            obtain ⟨j, hj, rfl⟩ := List.mem_iff_getElem.mp hx
            have e : co g j = g[j] := by simp [co, hj]
            rw [← e]
            exact z j
          rw [h1] at hc
          have := Int.eq_one_of_dvd_one (by have := hp.1; omega) hc
          have := hp.1
          omega
      have p0 : p ≠ 0 := by have := hp.1; omega
      have hq' : ∀ x ∈ q, p ∣ x := fun x hx => by
        obtain ⟨j, hj, rfl⟩ := List.mem_iff_getElem.mp hx
        have e : co q j = q[j] := by simp [co, hj]
        rw [← e]
        exact hq j
      have k10 : k1 ≠ 0 := by rintro rfl; exact k0 (Int.mul_zero p)
      refine ih k1.natAbs ?_ k1 a (partI q p) rfl k10 fun t => ?_
      · rw [← hk, Int.natAbs_mul]
        have h2 := hp.1
        have : 1 ≤ k1.natAbs := by omega
        have h3 : 2 * k1.natAbs ≤ p.natAbs * k1.natAbs := Nat.mul_le_mul_right _ (by omega)
        omega
      · apply Int.eq_of_mul_eq_mul_left p0
        have e1 := ev_partI p0 hq' t
        have e2 := e t
        rw [← e1] at e2
        grind
/-- what a plain polynomial divides: by whole figures -/
theorem Dv.whole {g a : List Int} (h : Dv g a) (pg : Plain g) (ta : Trim a) : ∃ q, Trim q ∧ ∀ t, ev a t = ev q t * ev g t := by
  by_cases hg : g = []
  · subst hg
    obtain ⟨k, q, hk, e⟩ := h
    refine ⟨[], trim_nil, fun t => ?_⟩
    have := e t
    rw [show ev [] t = 0 from rfl, Int.mul_zero] at this
    rw [(Int.mul_eq_zero.mp this).resolve_left hk]
    show 0 = ev [] t * ev [] t
    rw [show ev [] t = 0 from rfl]
    rfl
  · obtain ⟨k, q, hk, e⟩ := h
    obtain ⟨q', e'⟩ := gauss hg (pg.one hg) _ k a q rfl hk e
    exact ⟨cutI q', cutI_trim _, fun t => by rw [ev_cutI]; exact e' t⟩
end DL
end L2

/-! QF: quotients in their form. Plain Lean. -/
namespace L2
namespace DL
open PySem PySem.Spec PyProof PyProof.Rows
/-- top and bottom in the form -/
structure QForm (t b : List Int) : Prop where
  tt : Trim t
  tb : Trim b
  pos : 0 < b.getLastD 1
  nb : b ≠ []
  /-- no common part -/
  prim : ∀ d, Dv d t → Dv d b → Dv d [1]
  /-- no common number -/
  one : contI 0 (t ++ b) = 1
theorem dv_one {d : List Int} (h : Dv d [1]) (td : Trim d) : d.length = 1 := by
  have h1 : Trim [1] := trim_one.mpr (by decide)
  obtain ⟨a, b⟩ := h.len h1 td (by simp)
  have := List.length_pos_iff.mpr a
  simp at b
  omega
theorem one_dv (d : List Int) : Dv [1] d := ⟨1, d, by decide, fun t => by show 1 * _ = _ * (1 + t * 0); omega⟩
/-- d divides a b, d and a without a common part: d divides b -/
theorem Dv.coprime_aux : ∀ (n : Nat) (d a : List Int), d.length ≤ n → Trim d → Trim a → (∀ e, Dv e d → Dv e a → Dv e [1]) → ∃ (k : Int) (u v : List Int), k ≠ 0 ∧ ∀ t, k = ev u t * ev d t + ev v t * ev a t
  | 0, d, a, hn, td, ta, h => by
    have hd : d = [] := List.length_eq_zero_iff.mp (by omega)
    subst hd
    have h1 := h a (Dv.nil a) (Dv.refl a)
    obtain ⟨k, q, hk, e⟩ := h1
    refine ⟨k, [], q, hk, fun t => ?_⟩
    have := e t
    rw [show ev [1] t = 1 + t * 0 from rfl] at this
    rw [show ev [] t = 0 from rfl]
    omega
  | n + 1, d, a, hn, td, ta, h => by
    by_cases hd : d = []
    · exact Dv.coprime_aux n d a (by rw [hd]; exact Nat.zero_le n) td ta h
    · obtain ⟨r, ok⟩ : ∃ r, Trim r ∧ r.length < d.length ∧ ∃ (k : Int) (q : List Int), 0 < k ∧ ∀ t, k * ev a t = ev q t * ev d t + ev r t := by
        have rest : ∀ (m : Nat) (x : List Int) (k0 : Int) (q0 : List Int), x.length ≤ m → Trim x → 0 < k0 → (∀ t, k0 * ev a t = ev q0 t * ev d t + ev x t) → ∃ r, Trim r ∧ r.length < d.length ∧ ∃ (k : Int) (q : List Int), 0 < k ∧ ∀ t, k * ev a t = ev q t * ev d t + ev r t := by
          intro m
          induction m with
          | zero =>
            intro x k0 q0 hx tx hk e
            have ld := List.length_pos_iff.mpr hd
            exact ⟨x, tx, by omega, k0, q0, hk, e⟩
          | succ m ih =>
            intro x k0 q0 hx tx hk e
            by_cases c : x.length < d.length
            · exact ⟨x, tx, c, k0, q0, hk, e⟩
            · have td0 : d.getLastD 1 ≠ 0 := td
              obtain ⟨s1, s2, _⟩ := step_ok (a := x) (b := d) (o := (d.getLastD 1) * (d.getLastD 1)) (h := x.getLastD 1 * d.getLastD 1) hd (by omega) (by grind)
              have sq : 0 < d.getLastD 1 * d.getLastD 1 := by
                rcases Int.lt_or_gt_of_ne td0 with z | z
                · have := Int.mul_pos (show 0 < -d.getLastD 1 by omega) (show 0 < -d.getLastD 1 by omega)
                  rw [Int.neg_mul_neg] at this
                  exact this
                · exact Int.mul_pos z z
              generalize hy : psubI (pscaleI (d.getLastD 1 * d.getLastD 1) x) (raiseI (pscaleI (x.getLastD 1 * d.getLastD 1) d) (x.length - d.length)) = y at s1 s2
              have ty : Trim y := by rw [← hy]; exact cutI_trim _
              refine ih y (d.getLastD 1 * d.getLastD 1 * k0) (addL (scaleL (d.getLastD 1 * d.getLastD 1) q0) (raiseI [x.getLastD 1 * d.getLastD 1] (x.length - d.length))) (by omega) ty (Int.mul_pos sq hk) fun t => ?_
              have e1 := e t
              have e2 := s2 t
              unfold scaleL
              rw [ev_addL, ev_scale]
              grind
        exact rest a.length a 1 [] (Nat.le_refl _) ta (by decide) fun t => by show 1 * _ = 0 * _ + _; omega
      obtain ⟨tr, lr, k, q, hk, e⟩ := ok
      obtain ⟨k2, u, v, hk2, e2⟩ := Dv.coprime_aux n r d (by omega) tr td fun c h1 h2 => h c h2 (Dv.comb (by omega) e h2 h1)
      refine ⟨k2, addL v (scaleL (-1) (mulL u q)), scaleL k u, hk2, fun t => ?_⟩
      have a1 := e t
      have a2 := e2 t
      unfold scaleL
      rw [ev_addL, ev_scale, ev_scale, ev_mulL]
      grind
theorem Dv.coprime {d a b : List Int} (td : Trim d) (ta : Trim a) (h : ∀ e, Dv e d → Dv e a → Dv e [1]) (x : Dv d (mulL a b)) : Dv d b := by
  obtain ⟨k, u, v, hk, e⟩ := Dv.coprime_aux d.length d a (Nat.le_refl _) td ta h
  obtain ⟨k2, w, hk2, e2⟩ := x
  refine ⟨k * k2, addL (scaleL k2 (mulL u b)) (mulL v w), Int.mul_ne_zero hk hk2, fun t => ?_⟩
  have a1 := e t
  have a2 := e2 t
  rw [ev_mulL] at a2
  unfold scaleL
  rw [ev_addL, ev_scale, ev_mulL, ev_mulL]
  grind
theorem contI_append (g : Int) (a b : List Int) : contI g (a ++ b) = contI (contI g a) b := by
  unfold contI
  exact List.foldl_append
theorem mulL_comm_ev (a b : List Int) (t : Int) : ev (mulL a b) t = ev (mulL b a) t := by rw [ev_mulL, ev_mulL, Int.mul_comm]
/-- the form is told by its worth -/
theorem QForm.unique {t b t' b' : List Int} (x : QForm t b) (y : QForm t' b') (e : ∀ s, ev t s * ev b' s = ev t' s * ev b s) : t = t' ∧ b = b' := by
  have h1 : Dv b b' := Dv.coprime (a := t) x.tb x.tt (fun c p q => x.prim c q p) ⟨1, t', by decide, fun s => by rw [ev_mulL]; have := e s; omega⟩
  have h2 : Dv b' b := Dv.coprime (a := t') y.tb y.tt (fun c p q => y.prim c q p) ⟨1, t, by decide, fun s => by rw [ev_mulL]; have := e s; omega⟩
  have l1 := (h1.len y.tb x.tb y.nb).2
  have l2 := (h2.len x.tb y.tb x.nb).2
  obtain ⟨k, q, hk, e1⟩ := h1
  have e1' : ∀ s, k * ev b' s = ev (cutI q) s * ev b s := fun s => by rw [ev_cutI]; exact e1 s
  have q0 : cutI q ≠ [] := by
    intro z
    refine y.nb (nil_of_ev y.tb fun s => ?_)
    have := e1' s
    rw [z, show ev [] s = 0 from rfl, Int.zero_mul] at this
    exact (Int.mul_eq_zero.mp this).resolve_left hk
  have e3 : scaleL k b' = pmul (cutI q) b := ev_ext (scaleL_trim hk y.tb) (pmul_trim _ _) fun s => by
    rw [ev_pmul]
    unfold scaleL
    rw [ev_scale]
    exact e1' s
  have l := pmul_len (cutI_trim q) x.tb q0 x.nb
  rw [← e3, scaleL_len] at l
  have lq : (cutI q).length = 1 := by
    have := List.length_pos_iff.mpr q0
    omega
  obtain ⟨c, hc⟩ := List.length_eq_one_iff.mp lq
  have tq := cutI_trim q
  rw [hc] at tq
  have c0 := trim_one.mp tq
  have eb : ∀ s, k * ev b' s = c * ev b s := fun s => by
    rw [e1' s, hc]
    show (c + s * 0) * _ = _
    rw [Int.mul_zero, Int.add_zero]
  have et : ∀ s, k * ev t' s = c * ev t s := fun s => by
    have bz : ∀ u : List Int, (∀ s, ev u s * ev b s = 0) → ∀ s, ev u s = 0 := fun u hu s => by
      have hz : cutI u = [] := by
        by_cases z : cutI u = []
        · exact z
        · exact absurd (nil_of_ev (pmul_trim _ _) fun s => by rw [ev_pmul, ev_cutI]; exact hu s) (pmul_ne (cutI_trim u) x.tb z x.nb)
      rw [← ev_cutI, hz]
      rfl
    have := bz (addL (scaleL k t') (scaleL (-c) t)) (fun s => by
      unfold scaleL
      rw [ev_addL, ev_scale, ev_scale]
      have a1 := e s
      have a2 := eb s
      grind) s
    unfold scaleL at this
    rw [ev_addL, ev_scale, ev_scale, Int.neg_mul] at this
    omega
  have sb : scaleL k b' = scaleL c b := ev_ext (scaleL_trim hk y.tb) (scaleL_trim c0 x.tb) fun s => by unfold scaleL; rw [ev_scale, ev_scale]; exact eb s
  have st : scaleL k t' = scaleL c t := ev_ext (scaleL_trim hk y.tt) (scaleL_trim c0 x.tt) fun s => by unfold scaleL; rw [ev_scale, ev_scale]; exact et s
  have ap : scaleL k (t' ++ b') = scaleL c (t ++ b) := by
    unfold scaleL at sb st ⊢
    rw [List.map_append, List.map_append, sb, st]
  have n1 : t ++ b ≠ [] := by simp [x.nb]
  have n2 : t' ++ b' ≠ [] := by simp [y.nb]
  have cc : k.natAbs = c.natAbs := by
    have a1 := contI_scaleL (c := k) n2
    have a2 := contI_scaleL (c := c) n1
    rw [ap, a2, x.one, y.one] at a1
    omega
  have lb := last_scaleL (c := k) y.nb
  rw [sb, last_scaleL x.nb] at lb
  have p1 := x.pos
  have p2 := y.pos
  have kc : k = c := by
    rcases Int.natAbs_eq_natAbs_iff.mp cc with z | z
    · exact z
    · exfalso
      subst z
      rcases Int.lt_or_gt_of_ne c0 with h | h
      · have a1 := Int.mul_pos (show 0 < -c by omega) p1
        have a2 := Int.mul_pos (show 0 < -c by omega) p2
        rw [Int.neg_mul] at a1
        omega
      · have a1 := Int.mul_pos h p1
        have a2 := Int.mul_pos h p2
        rw [Int.neg_mul] at lb
        omega
  subst kc
  refine ⟨ev_ext x.tt y.tt fun s => (Int.eq_of_mul_eq_mul_left hk (et s)).symm, ev_ext x.tb y.tb fun s => (Int.eq_of_mul_eq_mul_left hk (eb s)).symm⟩
end DL
end L2

/-! FB: a factor's figures are bounded by the product's. Plain Lean. -/
namespace L2
namespace DL
open PySem PySem.Spec PyProof PyProof.Rows
/-- u less its worth at s, over x - s -/
def lessAt : List Int → Int → List Int
  | [], _ => []
  | [_], _ => []
  | _ :: y :: ys, s => ev (y :: ys) s :: lessAt (y :: ys) s
theorem ev_lessAt : ∀ (u : List Int) (s t : Int), ev u t = ev u s + (t - s) * ev (lessAt u s) t
  | [], s, t => by show (0 : Int) = 0 + _ * 0; omega
  | [x], s, t => by show x + t * 0 = x + s * 0 + _ * 0; omega
  | x :: y :: ys, s, t => by
    have ih := ev_lessAt (y :: ys) s t
    show x + t * ev (y :: ys) t = x + s * ev (y :: ys) s + (t - s) * (ev (y :: ys) s + t * ev (lessAt (y :: ys) s) t)
    grind
theorem lessAt_len : ∀ (u : List Int) (s : Int), (lessAt u s).length = u.length - 1
  | [], _ => rfl
  | [_], _ => rfl
  | x :: y :: ys, s => by
    show (lessAt (y :: ys) s).length + 1 = _
    rw [lessAt_len (y :: ys) s]
    simp
/-- figures from worths: the factor -/
def grow2 (R : Nat) : Nat → Nat
  | 0 => 0
  | n + 1 => 1 + 2 * (R + 1) * grow2 R n
theorem co_of_lessAt : ∀ (u : List Int) (s : Int) (k : Nat), co u k = (if k = 0 then ev u s - s * co (lessAt u s) 0 else co (lessAt u s) (k - 1) - s * co (lessAt u s) k)
  | [], s, k => by
    show co [] k = _
    have : lessAt [] s = [] := rfl
    rw [this, co_nil, co_nil, co_nil]
    split
    · show (0 : Int) = 0 - s * 0; omega
    · omega
  | [x], s, k => by
    have : lessAt [x] s = [] := rfl
    rw [this, co_nil, co_nil, co_nil]
    split
    · rename_i h; subst h; show x = x + s * 0 - s * 0; omega
    · rename_i h
      rw [co_ge (by simp; omega)]
      omega
  | x :: y :: ys, s, k => by
    have e : lessAt (x :: y :: ys) s = ev (y :: ys) s :: lessAt (y :: ys) s := rfl
    rw [e]
    cases k with
    | zero =>
      rw [if_pos rfl, co_zero, co_zero]
      show x = x + s * ev (y :: ys) s - _
      omega
    | succ k =>
      rw [if_neg (by omega), co_succ, co_succ, co_of_lessAt (y :: ys) s k]
      show _ = co (ev (y :: ys) s :: lessAt (y :: ys) s) k - _
      cases k with
      | zero => rw [if_pos rfl, co_zero]
      | succ k => rw [if_neg (by omega), co_succ]; rfl
theorem co_bound (R : Nat) : ∀ (n : Nat) (u : List Int) (xs : List Int) (B : Nat), u.length ≤ n → n ≤ xs.length → xs.Nodup → (∀ x ∈ xs, x.natAbs ≤ R) → (∀ x ∈ xs, (ev u x).natAbs ≤ B) → ∀ k, (co u k).natAbs ≤ B * grow2 R n
  | 0, u, xs, B, hu, _, _, _, _, k => by
    have : u = [] := List.length_eq_zero_iff.mp (by omega)
    subst this
    rw [co_nil]
    exact Nat.zero_le _
  | n + 1, u, xs, B, hu, hx, nd, hR, hB, k => by
    cases xs with
    | nil => simp at hx
    | cons s xs =>
      have nds := List.nodup_cons.mp nd
      have b0 := hB s List.mem_cons_self
      have r0 := hR s List.mem_cons_self
      have ih := co_bound R n (lessAt u s) xs (2 * B) (by rw [lessAt_len]; omega) (by simpa using hx) nds.2 (fun x h => hR x (List.mem_cons_of_mem _ h)) (fun x h => by
        have e := ev_lessAt u s x
        have b1 := hB x (List.mem_cons_of_mem _ h)
        have ne : x - s ≠ 0 := fun z => nds.1 (by rw [show s = x by omega]; exact h)
        have e2 : ((x - s) * ev (lessAt u s) x).natAbs ≤ 2 * B := by omega
        rw [Int.natAbs_mul] at e2
        have : 1 * (ev (lessAt u s) x).natAbs ≤ (x - s).natAbs * (ev (lessAt u s) x).natAbs := Nat.mul_le_mul_right _ (by omega)
        omega)
      have c := co_of_lessAt u s k
      have s1 : ∀ j, (s * co (lessAt u s) j).natAbs ≤ R * (2 * B * grow2 R n) := fun j => by
        rw [Int.natAbs_mul]
        exact Nat.mul_le_mul r0 (ih j)
      have eg : B * grow2 R (n + 1) = B + (R + 1) * (2 * B * grow2 R n) := by
        show B * (1 + 2 * (R + 1) * grow2 R n) = _
        rw [Nat.mul_add, Nat.mul_one]
        congr 1
        rw [Nat.mul_comm 2 (R + 1), Nat.mul_assoc, ← Nat.mul_assoc B, Nat.mul_comm B (R + 1), Nat.mul_assoc, Nat.mul_comm 2 B, Nat.mul_assoc]
      rw [eg, Nat.add_mul, Nat.one_mul]
      have i0 := ih (k - 1)
      have t0 := s1 0
      have t1 := s1 k
      rw [c]
      split
      · omega
      · omega
/-- few places of worth 0 -/
theorem roots_few : ∀ (n : Nat) (u : List Int) (xs : List Int), u.length ≤ n → (∃ t, ev u t ≠ 0) → xs.Nodup → (∀ x ∈ xs, ev u x = 0) → xs.length ≤ n - 1
  | 0, u, xs, hu, ⟨t, ht⟩, _, _ => by
    have : u = [] := List.length_eq_zero_iff.mp (by omega)
    subst this
    exact absurd rfl ht
  | n + 1, u, xs, hu, ⟨t, ht⟩, nd, hx => by
    cases xs with
    | nil => exact Nat.zero_le _
    | cons s xs =>
      have nds := List.nodup_cons.mp nd
      have h0 := hx s List.mem_cons_self
      have et := ev_lessAt u s t
      rw [h0] at et
      have ht2 : ev (lessAt u s) t ≠ 0 := fun z => ht (by rw [et, z, Int.mul_zero]; rfl)
      have ih := roots_few n (lessAt u s) xs (by rw [lessAt_len]; omega) ⟨t, ht2⟩ nds.2 fun x h => by
        have e := ev_lessAt u s x
        rw [h0, hx x (List.mem_cons_of_mem _ h), Int.zero_add] at e
        refine (Int.mul_eq_zero.mp e.symm).resolve_left fun z => nds.1 ?_
        rw [show s = x by omega]
        exact h
      have hn : n ≠ 0 := by
        rintro rfl
        have : lessAt u s = [] := List.length_eq_zero_iff.mp (by rw [lessAt_len]; omega)
        rw [this] at ht2
        exact ht2 rfl
      simp only [List.length_cons]
      omega
theorem filter_len {p : Int → Bool} : ∀ l : List Int, (l.filter p).length + (l.filter fun x => !p x).length = l.length
  | [] => rfl
  | x :: xs => by
    have ih := filter_len (p := p) xs
    cases h : p x <;> simp [List.filter, h] <;> omega
def pts (n : Nat) : List Int := (List.range n).map fun (i : Nat) => (i : Int)
theorem pts_nodup (n : Nat) : (pts n).Nodup := by
  unfold pts
  exact List.pairwise_map.mpr ((List.nodup_range (n := n)).imp fun h e => h (by omega))
theorem ev_bound {n R : Nat} : ∀ {a : List Int} {x : Int}, Bits n a → x.natAbs ≤ R → 1 ≤ R → (ev a x).natAbs ≤ a.length * (2 ^ n * R ^ a.length)
  | [], x, _, _, _ => by show (0 : Int).natAbs ≤ _; exact Nat.zero_le _
  | c :: cs, x, h, hx, h1 => by
    have hc : c.natAbs < 2 ^ n := h 0
    have h2 : Bits n cs := fun k => by rw [← co_succ c]; exact h (k + 1)
    have ih := ev_bound h2 hx h1
    show (c + x * ev cs x).natAbs ≤ _
    have t1 : (x * ev cs x).natAbs ≤ R * (cs.length * (2 ^ n * R ^ cs.length)) := by
      rw [Int.natAbs_mul]
      exact Nat.mul_le_mul hx ih
    have t2 : R * (cs.length * (2 ^ n * R ^ cs.length)) = cs.length * (2 ^ n * R ^ (cs.length + 1)) := by
      rw [Nat.pow_succ]
      simp only [Nat.mul_comm, Nat.mul_left_comm, Nat.mul_assoc]
    have t3 : 2 ^ n ≤ 2 ^ n * R ^ (cs.length + 1) := Nat.le_mul_of_pos_right _ (Nat.pow_pos h1)
    rw [List.length_cons, Nat.add_mul, Nat.one_mul]
    omega
/-- a factor's figures -/
theorem factor_bound {n L : Nat} {a u w : List Int} (ba : Bits n a) (la : a.length ≤ L) (lu : u.length ≤ L) (ha : ∃ t, ev a t ≠ 0) (e : ∀ t, ev a t = ev u t * ev w t) :
    ∀ k, (co u k).natAbs ≤ L * (2 ^ n * (2 * L + 1) ^ L) * grow2 (2 * L + 1) L := by
  have few := roots_few L a ((pts (2 * L)).filter fun x => decide (ev a x = 0)) la ha ((pts_nodup _).filter _) fun x hx => by
    have := (List.mem_filter.mp hx).2
    simpa using this
  have len := filter_len (p := fun x => decide (ev a x = 0)) (pts (2 * L))
  have lp : (pts (2 * L)).length = 2 * L := by simp [pts]
  refine co_bound (2 * L + 1) L u ((pts (2 * L)).filter fun x => !decide (ev a x = 0)) _ lu (by omega) ((pts_nodup _).filter _) (fun x hx => ?_) (fun x hx => ?_)
  · obtain ⟨i, hi, rfl⟩ := List.mem_map.mp (List.mem_filter.mp hx).1
    have := List.mem_range.mp hi
    omega
  · have h0 : ev a x ≠ 0 := by
      have := (List.mem_filter.mp hx).2
      simpa using this
    have hx1 : x.natAbs ≤ 2 * L + 1 := by
      obtain ⟨i, hi, rfl⟩ := List.mem_map.mp (List.mem_filter.mp hx).1
      have := List.mem_range.mp hi
      omega
    have b := ev_bound ba hx1 (by omega)
    have b2 : a.length * (2 ^ n * (2 * L + 1) ^ a.length) ≤ L * (2 ^ n * (2 * L + 1) ^ L) := Nat.mul_le_mul la (Nat.mul_le_mul_left _ (Nat.pow_le_pow_right (by omega) la))
    have w0 : ev w x ≠ 0 := fun z => h0 (by rw [e x, z, Int.mul_zero])
    have e1 := e x
    have : (ev u x).natAbs * 1 ≤ (ev u x).natAbs * (ev w x).natAbs := Nat.mul_le_mul_left _ (by omega)
    rw [← Int.natAbs_mul, ← e1] at this
    omega
theorem fac9 : 9 * (2 * 9 + 1) ^ 9 * grow2 (2 * 9 + 1) 9 < 2 ^ 130 := by decide +kernel
theorem fac40 : 40 * (2 * 40 + 1) ^ 40 * grow2 (2 * 40 + 1) 40 < 2 ^ 560 := by decide +kernel
/-- bits of a plain divisor -/
theorem dv_bitsL {n L c : Nat} {a g : List Int} (hf : L * (2 * L + 1) ^ L * grow2 (2 * L + 1) L < 2 ^ c) (ba : Bits n a) (la : a.length ≤ L) (ta : Trim a) (na : a ≠ []) (pg : Plain g) (d : Dv g a) : Bits (n + c) g := by
  obtain ⟨q, tq, e⟩ := d.whole pg ta
  have lg := (d.len ta pg.trim na).2
  intro k
  have h1 : ∃ t, ev a t ≠ 0 := by
    by_cases c : ∃ t, ev a t ≠ 0
    · exact c
    · exact absurd (nil_of_ev ta fun t => by
        by_cases z : ev a t = 0
        · exact z
        · exact absurd ⟨t, z⟩ c) na
  have h := factor_bound (L := L) ba la (Nat.le_trans lg la) h1 (w := q) (fun t => by rw [e t, Int.mul_comm]) k
  have e2 : L * (2 ^ n * (2 * L + 1) ^ L) * grow2 (2 * L + 1) L = 2 ^ n * (L * (2 * L + 1) ^ L * grow2 (2 * L + 1) L) := by
    simp only [Nat.mul_comm, Nat.mul_left_comm, Nat.mul_assoc]
  rw [e2] at h
  rw [Nat.pow_add]
  exact Nat.lt_of_le_of_lt h (Nat.mul_lt_mul_of_pos_left hf (two_pos n))
theorem dv_bits {n : Nat} {a g : List Int} (ba : Bits n a) (la : a.length ≤ 9) (ta : Trim a) (na : a ≠ []) (pg : Plain g) (d : Dv g a) : Bits (n + 130) g := dv_bitsL fac9 ba la ta na pg d
theorem dv_bits40 {n : Nat} {a g : List Int} (ba : Bits n a) (la : a.length ≤ 40) (ta : Trim a) (na : a ≠ []) (pg : Plain g) (d : Dv g a) : Bits (n + 560) g := dv_bitsL fac40 ba la ta na pg d
end DL
end L2

/-! SPf: exact division, forms of quotients: what is promised. -/
namespace L2
namespace DL
open PySem PySem.Spec PyProof PyProof.Rows
/-- u over v is t over b in the form, w was taken out -/
structure FormOk (t b u v : List Int) : Prop where
  form : QForm u v
  fac : ∃ w, (∀ s, ev t s = ev u s * ev w s) ∧ ∀ s, ev b s = ev v s * ev w s
theorem FormOk.cross {t b u v : List Int} (h : FormOk t b u v) (s : Int) : ev u s * ev b s = ev t s * ev v s := by
  obtain ⟨w, h1, h2⟩ := h.fac
  rw [h1 s, h2 s]
  grind
theorem ne_worth {a : List Int} (ta : Trim a) (h : a ≠ []) : ∃ t, ev a t ≠ 0 := by
  by_cases c : ∃ t, ev a t ≠ 0
  · exact c
  · exact absurd (nil_of_ev ta fun t => by
      by_cases e : ev a t = 0
      · exact e
      · exact absurd ⟨t, e⟩ c) h
theorem dv_of_fac {a u w : List Int} (e : ∀ s, ev a s = ev u s * ev w s) : Dv u a := ⟨1, w, by decide, fun s => by rw [e s, Int.one_mul, Int.mul_comm]⟩
theorem FormOk.lv {t b u v : List Int} (h : FormOk t b u v) (tb : Trim b) (nb : b ≠ []) : v.length ≤ b.length := by
  obtain ⟨w, _, h2⟩ := h.fac
  exact ((dv_of_fac h2).len tb h.form.tb nb).2
theorem FormOk.lu {t b u v : List Int} (h : FormOk t b u v) (tt : Trim t) (tb : Trim b) (nb : b ≠ []) : u.length ≤ t.length := by
  obtain ⟨w, h1, h2⟩ := h.fac
  by_cases nt : t = []
  · subst nt
    have : u = [] := by
      have wz : cutI w ≠ [] := fun z => by
        obtain ⟨s, hs⟩ := ne_worth tb nb
        exact hs (by rw [h2 s, ← ev_cutI w, z]; show _ * 0 = 0; rw [Int.mul_zero])
      by_cases c : u = []
      · exact c
      · exact absurd (nil_of_ev (pmul_trim u (cutI w)) fun s => by rw [ev_pmul, ev_cutI, ← h1 s]; rfl) (pmul_ne h.form.tt (cutI_trim w) c wz)
    rw [this]
    exact Nat.le_refl _
  · exact ((dv_of_fac h1).len tt h.form.tt nt).2
/-- bits of a form: by the factors' bound -/
def fbits (n L : Nat) : Nat := L * (2 ^ n * (2 * L + 1) ^ L) * grow2 (2 * L + 1) L
theorem FormOk.bu {t b u v : List Int} {n m L : Nat} (h : FormOk t b u v) (tt : Trim t) (tb : Trim b) (nb : b ≠ []) (bt : Bits n t) (lt : t.length ≤ L) (hm : fbits n L < 2 ^ m) : Bits m u := by
  obtain ⟨w, h1, h2⟩ := h.fac
  by_cases nt : t = []
  · have := h.lu tt tb nb
    subst nt
    have : u = [] := List.length_eq_zero_iff.mp (Nat.le_zero.mp this)
    subst this
    exact Bits.nil
  · intro k
    have := factor_bound bt lt (Nat.le_trans (h.lu tt tb nb) lt) (ne_worth tt nt) h1 k
    exact Nat.lt_of_le_of_lt this hm
theorem FormOk.bv {t b u v : List Int} {n m L : Nat} (h : FormOk t b u v) (tb : Trim b) (nb : b ≠ []) (bb : Bits n b) (lb : b.length ≤ L) (hm : fbits n L < 2 ^ m) : Bits m v := by
  obtain ⟨w, h1, h2⟩ := h.fac
  intro k
  have := factor_bound bb lb (Nat.le_trans (h.lv tb nb) lb) (ne_worth tb nb) h2 k
  exact Nat.lt_of_le_of_lt this hm
def sp_ldivided : DSp := fun ds S Q _ => ∃ a g, ds = [PT a, PT g] ∧ Trim a ∧ a ≠ [] ∧ Plain g ∧ g ≠ [] ∧ Dv g a ∧ a.length ≤ 100 ∧ g.length ≤ 100 ∧ (∃ n m, Bits n a ∧ Bits m g ∧ n + (a.length + 1) * (m + 1) ≤ 100000000) ∧ ∀ q, Trim q → (∀ t, ev a t = ev q t * ev g t) → Q (PT q) S
def sp_lform : DSp := fun ds S Q _ => ∃ t b, ds = [PT t, PT b] ∧ Trim t ∧ Trim b ∧ b ≠ [] ∧ Small t b ∧ ∀ u v, FormOk t b u v → Q (.tup [PT u, PT v]) S
def sp_lquotient : DSp := fun ds S Q _ => ∃ p most signs, ds = [.ref p, .int most, .int signs] ∧ Purse S p ∧ 0 ≤ most ∧ most ≤ 9 ∧ 1 ≤ signs ∧ signs < 10 ^ 31 ∧
  ∀ t b u v S', Trim t → Trim b → b ≠ [] → (t.length : Int) ≤ most ∨ t.length ≤ 1 → (b.length : Int) ≤ most ∨ b.length ≤ 1 → Drawn signs t → (Drawn signs b ∨ Drawn 10 b) → FormOk t b u v → But p S S' → Purse S' p → Q (.tup [PT u, PT v]) S'
section
variable {S : Sto} {Q : DK} {E : Addr → Sto → Prop} {a b t g : List Int} {p : Addr} {most signs : Int}
theorem call_ldivided : sp_ldivided [PT a, PT g] S Q E = (Trim a ∧ a ≠ [] ∧ Plain g ∧ g ≠ [] ∧ Dv g a ∧ a.length ≤ 100 ∧ g.length ≤ 100 ∧ (∃ n m, Bits n a ∧ Bits m g ∧ n + (a.length + 1) * (m + 1) ≤ 100000000) ∧ ∀ q, Trim q → (∀ t, ev a t = ev q t * ev g t) → Q (PT q) S) :=
  propext ⟨fun ⟨_, _, e, h⟩ => by simp only [List.cons.injEq] at e; obtain ⟨e1, e2, _⟩ := e; obtain rfl := pt_inj e1; obtain rfl := pt_inj e2; exact h, fun h => ⟨_, _, rfl, h⟩⟩
theorem call_lform : sp_lform [PT t, PT b] S Q E = (Trim t ∧ Trim b ∧ b ≠ [] ∧ Small t b ∧ ∀ u v, FormOk t b u v → Q (.tup [PT u, PT v]) S) :=
  propext ⟨fun ⟨_, _, e, h⟩ => by simp only [List.cons.injEq] at e; obtain ⟨e1, e2, _⟩ := e; obtain rfl := pt_inj e1; obtain rfl := pt_inj e2; exact h, fun h => ⟨_, _, rfl, h⟩⟩
theorem call_lquotient : sp_lquotient [.ref p, .int most, .int signs] S Q E = (Purse S p ∧ 0 ≤ most ∧ most ≤ 9 ∧ 1 ≤ signs ∧ signs < 10 ^ 31 ∧
    ∀ t b u v S', Trim t → Trim b → b ≠ [] → (t.length : Int) ≤ most ∨ t.length ≤ 1 → (b.length : Int) ≤ most ∨ b.length ≤ 1 → Drawn signs t → (Drawn signs b ∨ Drawn 10 b) → FormOk t b u v → But p S S' → Purse S' p → Q (.tup [PT u, PT v]) S') :=
  propext ⟨fun ⟨_, _, _, e, h⟩ => by cases e; exact h, fun h => ⟨_, _, _, rfl, h⟩⟩
end
def sp_qworth (C : Cs) : DSp := fun ds S Q E => ∃ u v x, ds = [.tup [PT u, PT v], NQ x] ∧ u.length ≤ 1000 ∧ v.length ≤ 1000 ∧ (∃ n m, Bits n u ∧ Bits n v ∧ RB m x ∧ 1 ≤ n ∧ (u.length + 2) * (n + m + 1) ≤ 20000000 ∧ (v.length + 2) * (n + m + 1) ≤ 20000000) ∧
  (evQ v x = 0 → E C.np S) ∧ (evQ v x ≠ 0 → Q (NQ (evQ u x / evQ v x)) S)
theorem qw_inj {u v u' v' : List Int} {x x' : Rat} (h : [D.tup [PT u, PT v], NQ x] = [D.tup [PT u', PT v'], NQ x']) : u = u' ∧ v = v' ∧ x = x' := by
  rw [List.cons.injEq, List.cons.injEq] at h
  have h1 : [PT u, PT v] = [PT u', PT v'] := by injection h.1
  rw [List.cons.injEq, List.cons.injEq] at h1
  exact ⟨pt_inj h1.1, pt_inj h1.2.1, NQ_inj h.2.1⟩
theorem call_qworth {C : Cs} {S : Sto} {Q : DK} {E : Addr → Sto → Prop} {u v : List Int} {x : Rat} : sp_qworth C [.tup [PT u, PT v], NQ x] S Q E = (u.length ≤ 1000 ∧ v.length ≤ 1000 ∧ (∃ n m, Bits n u ∧ Bits n v ∧ RB m x ∧ 1 ≤ n ∧ (u.length + 2) * (n + m + 1) ≤ 20000000 ∧ (v.length + 2) * (n + m + 1) ≤ 20000000) ∧
    (evQ v x = 0 → E C.np S) ∧ (evQ v x ≠ 0 → Q (NQ (evQ u x / evQ v x)) S)) :=
  propext ⟨fun ⟨_, _, _, e, h⟩ => by obtain ⟨rfl, rfl, rfl⟩ := qw_inj e; exact h, fun h => ⟨_, _, _, rfl, h⟩⟩
theorem num_zero {x : Rat} : x.num = 0 ↔ x = 0 := ⟨fun h => by
  have := divInt_own x
  rw [h, Rat.divInt_eq_div] at this
  rw [← this]
  have e0 : ((0 : Int) : Rat) = 0 := rfl
  rw [e0]
  grind, fun h => by rw [h]; rfl⟩
theorem over_divInt {x y : Rat} (hy : y ≠ 0) : Rat.divInt (x.num * y.den) ((x.den : Int) * y.num) = x / y := by
  have h1 := divInt_own x
  have h2 := divInt_own y
  rw [Rat.divInt_eq_div] at h1 h2
  have d1 : ((x.den : Int) : Rat) ≠ 0 := fun z => den_ne x (Rat.intCast_eq_zero_iff.mp z)
  have d2 : ((y.den : Int) : Rat) ≠ 0 := fun z => den_ne y (Rat.intCast_eq_zero_iff.mp z)
  have n2 : (y.num : Rat) ≠ 0 := fun z => hy (num_zero.mp (Rat.intCast_eq_zero_iff.mp z))
  rw [Rat.divInt_eq_div, Rat.intCast_mul, Rat.intCast_mul]
  conv => rhs; rw [← h1, ← h2]
  generalize ((x.den : Int) : Rat) = a at *
  generalize ((y.den : Int) : Rat) = b at *
  generalize (x.num : Rat) = c at *
  generalize (y.num : Rat) = d at *
  grind
theorem over_ne {x y : Rat} (hy : y ≠ 0) : (x.den : Int) * y.num ≠ 0 := Int.mul_ne_zero (den_ne x) fun z => hy (num_zero.mp z)
theorem call_overR {C : Cs} {S : Sto} {Q : DK} {E : Addr → Sto → Prop} {n m : Nat} {x y : Rat} (hx : RB n x) (hy : RB m y) (h : n + m ≤ 100000000) (y0 : y ≠ 0) (q : Q (NQ (x / y)) S) : sp_over C [NQ x, NQ y] S Q E := by
  refine ⟨_, _, _, _, rfl, mul_ok hx.num hy.den h, mul_ok hx.den hy.num h, fun z => absurd z (over_ne y0), fun z => ?_⟩
  rw [NN_nrm _ z, over_divInt y0]
  exact q
theorem part_one {l : List Int} {s : Int} (hs : s ≠ 0) (h : s.natAbs = (contI 0 l).natAbs) : contI 0 (partI l s) = 1 := by
  have c0 := contI_nonneg l 0 (Int.le_refl 0)
  have hd : ∀ x ∈ l, s ∣ x := fun x hx => by
    have := (contI_dvd l 0).2 x hx
    exact Int.natAbs_dvd_natAbs.mp (by rw [h]; exact Int.natAbs_dvd_natAbs.mpr this)
  have n0 := contI_nonneg (partI l s) 0 (Int.le_refl 0)
  have h1 := (contI_dvd (partI l s) 0).2
  have h2 : contI 0 (partI l s) * s ∣ contI 0 l := by
    refine dvd_contI l 0 (Int.dvd_zero _) fun x hx => ?_
    obtain ⟨q, hq⟩ := h1 (x.fdiv s) (List.mem_map.mpr ⟨x, hx, rfl⟩)
    refine ⟨q, ?_⟩
    have e := fdiv_exact hs (hd x hx)
    rw [hq] at e
    rw [← e]
    grind
  have h3 : contI 0 (partI l s) * s ∣ s := Int.natAbs_dvd_natAbs.mp (by rw [h]; exact Int.natAbs_dvd_natAbs.mpr h2)
  obtain ⟨q, hq⟩ := h3
  have h4 : contI 0 (partI l s) * q = 1 := by
    apply Int.eq_of_mul_eq_mul_right hs
    rw [Int.one_mul]
    conv => rhs; rw [hq]
    grind
  exact Int.eq_one_of_dvd_one n0 ⟨q, h4.symm⟩
theorem form_zero (b : List Int) : FormOk [] b [] [1] :=
  ⟨⟨trim_nil, trim_one.mpr (by decide), by decide, by simp, fun d _ h => h, by decide⟩, b, fun s => by show (0 : Int) = 0 * _; omega, fun s => by show _ = (1 + s * 0) * _; grind⟩
theorem form_make {t b g t1 b1 : List Int} {w : Int} (nt : t ≠ []) (tb : Trim b) (nb : b ≠ []) (ig : IsGcd t b g) (tt1 : Trim t1) (tb1 : Trim b1) (et : ∀ s, ev t s = ev t1 s * ev g s) (eb : ∀ s, ev b s = ev b1 s * ev g s)
    (nb1 : b1 ≠ []) (hw : w.natAbs = (contI 0 (t1 ++ b1)).natAbs) (w0 : w ≠ 0) (sg : 0 < w * b1.getLastD 1) : FormOk t b (partI t1 w) (partI b1 w) := by
  have dl : ∀ x ∈ t1 ++ b1, w ∣ x := fun x hx => Int.natAbs_dvd_natAbs.mp (by rw [hw]; exact Int.natAbs_dvd_natAbs.mpr ((contI_dvd (t1 ++ b1) 0).2 x hx))
  have d1 : ∀ x ∈ t1, w ∣ x := fun x hx => dl x (List.mem_append_left _ hx)
  have d2 : ∀ x ∈ b1, w ∣ x := fun x hx => dl x (List.mem_append_right _ hx)
  have e1 := ev_partI w0 d1
  have e2 := ev_partI w0 d2
  have gn := (ig.right.len tb ig.plain.trim nb).1
  refine ⟨⟨partI_trim tt1 w0 d1, partI_trim tb1 w0 d2, ?_, mt partI_nil.mp nb1, fun d p q => ?_, ?_⟩, scaleL w g, fun s => ?_, fun s => ?_⟩
  · rw [last_partI nb1]
    have e := fdiv_exact w0 (d2 _ (last_mem nb1))
    rw [← e] at sg
    rcases Int.lt_or_gt_of_ne w0 with z | z
    · have h := pos_of_mul (x := (b1.getLastD 1).fdiv w) (s := w * w) (by
        have : w * ((b1.getLastD 1).fdiv w * w) = (b1.getLastD 1).fdiv w * (w * w) := by grind
        omega) (by
        have := Int.mul_pos (show 0 < -w by omega) (show 0 < -w by omega)
        rw [Int.neg_mul_neg] at this
        exact this)
      exact h
    · exact pos_of_mul (x := (b1.getLastD 1).fdiv w) (s := w * w) (by
        have : w * ((b1.getLastD 1).fdiv w * w) = (b1.getLastD 1).fdiv w * (w * w) := by grind
        omega) (Int.mul_pos z z)
  · have lift : ∀ {x x1 : List Int}, (∀ s, ev x s = ev x1 s * ev g s) → (∀ s, w * ev (partI x1 w) s = ev x1 s) → Dv d (partI x1 w) → Dv (mulL d g) x := fun {x x1} ex ew ⟨k, r, hk, er⟩ => ⟨k, scaleL w r, hk, fun s => by
      have a1 := ex s
      have a2 := ew s
      have a3 := er s
      unfold scaleL
      rw [ev_scale, ev_mulL]
      grind⟩
    obtain ⟨k, r, hk, er⟩ := ig.most (mulL d g) (lift et e1 p) (lift eb e2 q)
    refine ⟨k, r, hk, fun s => ?_⟩
    have cz : ∀ s, (ev (addL (mulL r d) [-k]) s) * ev g s = 0 := fun s => by
      have := er s
      rw [ev_mulL] at this
      rw [ev_addL, ev_mulL]
      show (_ + (-k + s * 0)) * _ = 0
      grind
    have z : cutI (addL (mulL r d) [-k]) = [] := by
      by_cases c : cutI (addL (mulL r d) [-k]) = []
      · exact c
      · exact absurd (nil_of_ev (pmul_trim _ _) fun s => by rw [ev_pmul, ev_cutI]; exact cz s) (pmul_ne (cutI_trim _) ig.plain.trim c gn)
    have h0 := ev_cutI (addL (mulL r d) [-k]) s
    rw [z, ev_addL, ev_mulL] at h0
    have h0' : (0 : Int) = ev r s * ev d s + (-k + s * 0) := h0
    show k * (1 + s * 0) = _
    rw [Int.mul_zero] at h0' ⊢
    omega
  · have : partI t1 w ++ partI b1 w = partI (t1 ++ b1) w := by unfold partI; rw [List.map_append]
    rw [this]
    exact part_one w0 hw
  · unfold scaleL
    rw [ev_scale, et s, ← e1 s]
    grind
  · unfold scaleL
    rw [ev_scale, eb s, ← e2 s]
    grind
end DL
end L2

namespace L2
namespace DL
open PySem PySem.Spec PyProof PyProof.Rows
local macro_rules | `(tactic| walk_at "dl") => `(tactic| simp only [sSeq, sSet, sIf, sRet, sPar, sNext, sDrop, sAsg, sRaise, eBin, eUn, eVar, eC, eB, eM, eM0, eTup, eLst, eCall, eAndV, eOrV, eNotV, eIf, aCons, aNil, tVal, tAndD, tOrD, tNotD, cBl, dName, dSub, dTup, dLst, dCons, dNil,
  onI_ii, onIC_ii, oAdd_ii, oAdd_tt, oIadd_ii, oMul_ii, oNeg_i, oEq_ii, oNe_ii, oIx_t, oIx_v, oIx_r, oLen_t, oLen_v, oLen_r, oAbs_i, o2I_ii, oInt_i, oInt_b, oTuple_t, oTuple_r, isi_int, isi_bool, isi_tup, oSet_r, oAppend_r, isL_r, iLstD_r, lstAt_sup, rdAt_sup, ix0, ix1, ix2, ix3, sFor, iRange1, iRange2,
  call_divisor, call_number, call_draw, call_whole, call_isWhole, call_isNumber, call_low, call_told, call_lover, call_right,
  call_content, call_parted, call_plain, call_isPoly, call_lpoly, oEq_pp, oNe_pp, oEq_p0, oNe_p0, iTupD, eLc, oMul_t, eSl, pNone, pSome, cSl, sAug, eLstRg1, tYesD, sPar3, call_figAt, call_pplus, call_pminus, call_scaled, call_raised, call_lsum, call_lproduct, call_ptimes, call_head, call_restBy, call_longdiv, call_lleft, call_common, call_lcommon, call_pslope, call_lslope, call_worth, call_lworth, call_lnumber, oNe_qq, iEnumTup, iRevTup, iRange2, call_ldivided, call_lform, call_lquotient, call_qworth,
  bodyEnds, bodyEX, List.set_cons_zero, List.set_cons_succ, List.getElem?_cons_zero, List.getElem?_cons_succ, decide_eq_true_eq, Bool.not_eq_true', decide_eq_false_iff_not, List.nil_append, List.append_nil, List.cons_append, Bool.false_eq_true, if_false, if_true, true_and, and_true])
def t_q_worth_2 (C : Cs) : DS :=
  (sRet (eCall (sp_over C) [] (aCons (eCall (sp_worth C) [] (aCons (eBin oIx (eVar 0) (eC (.int 0))) (aCons (eVar 1) aNil))) (aCons (eVar 2) aNil))))
def t_q_worth_1 (C : Cs) : DS :=
  (sSeq (sIf (tVal (eBin oEq (eBin oIx (eVar 2) (eC (.int 0))) (eC (.int 0)))) (sRaise C.np) sNext)
  (t_q_worth_2 C))
/-- q_worth: 0 one, 1 at, 2 bottom -/
def t_q_worth (C : Cs) : DS :=
  (sSeq (sSet 2 (eCall (sp_worth C) [] (aCons (eBin oIx (eVar 0) (eC (.int 1))) (aCons (eVar 1) aNil))))
  (t_q_worth_1 C))
def t__law_divided_1_2 : DS :=
  (sSet 0 (eCall sp_lsum [] (aCons (eVar 0) (aCons (eCall sp_lproduct [] (aCons (eBin oAdd (eBin oMul (eTup (aCons (eC (.int 0)) aNil)) (eVar 3)) (eTup (aCons (eBin oIx (eVar 2) (eVar 3)) aNil))) (aCons (eVar 1) aNil))) (aCons (eUn oNeg (eC (.int 1))) aNil)))))
def t__law_divided_1_1 : DS :=
  (sSeq (sAsg (eBin oFdiv (eBin oIx (eVar 0) (eUn oNeg (eC (.int 1)))) (eBin oIx (eVar 1) (eUn oNeg (eC (.int 1))))) (dSub (eVar 2) (eVar 3) oSet))
  (t__law_divided_1_2))
def t__law_divided_1_0 : DS :=
  (sSeq (sSet 3 (eBin oSub (eB oLen (aCons (eVar 0) aNil)) (eB oLen (aCons (eVar 1) aNil))))
  (t__law_divided_1_1))
def t__law_divided_2 : DS :=
  (sRet (eB oTuple (aCons (eVar 2) aNil)))
def t__law_divided_1 : DS :=
  (sSeq (sWhile (tVal (eBin oNe (eVar 0) (eTup aNil))) (t__law_divided_1_0))
  (t__law_divided_2))
/-- _law_divided: 0 _law_one, 1 _law_part, 2 _law_found, 3 _law_shift -/
def t__law_divided : DS :=
  (sSeq (sSet 2 (eBin oMul (eLst (aCons (eC (.int 0)) aNil)) (eBin oAdd (eBin oSub (eB oLen (aCons (eVar 0) aNil)) (eB oLen (aCons (eVar 1) aNil))) (eC (.int 1)))))
  (t__law_divided_1))
def t__law_form_6 : DS :=
  (sRet (eTup (aCons (eB oTuple (aCons (eLc (iTupD (eVar 0)) (dName 4) tYesD (eBin oFdiv (eVar 4) (eVar 3)) [4]) aNil)) (aCons (eB oTuple (aCons (eLc (iTupD (eVar 1)) (dName 4) tYesD (eBin oFdiv (eVar 4) (eVar 3)) [4]) aNil)) aNil))))
def t__law_form_5 : DS :=
  (sSeq (sIf (tVal (eBin oLt (eBin oIx (eVar 1) (eUn oNeg (eC (.int 1)))) (eC (.int 0)))) (sSet 3 (eUn oNeg (eVar 3))) sNext)
  (t__law_form_6))
def t__law_form_4 : DS :=
  (sSeq (sFor (iTupD (eBin oAdd (eVar 0) (eVar 1))) (dName 4) (sSet 3 (eCall sp_divisor [] (aCons (eVar 3) (aCons (eVar 4) aNil)))))
  (t__law_form_5))
def t__law_form_3 : DS :=
  (sSeq (sSet 3 (eC (.int 0)))
  (t__law_form_4))
def t__law_form_2 : DS :=
  (sSeq (sPar 0 1 (eCall sp_ldivided [] (aCons (eVar 0) (aCons (eVar 2) aNil))) (eCall sp_ldivided [] (aCons (eVar 1) (aCons (eVar 2) aNil))))
  (t__law_form_3))
def t__law_form_1 : DS :=
  (sSeq (sSet 2 (eCall sp_lcommon [] (aCons (eVar 0) (aCons (eVar 1) aNil))))
  (t__law_form_2))
/-- _law_form: 0 _law_top, 1 _law_bottom, 2 _law_part, 3 _law_whole_here, 4 _law_entry -/
def t__law_form : DS :=
  (sSeq (sIf (tVal (eBin oEq (eVar 0) (eTup aNil))) (sRet (eTup (aCons (eTup aNil) (aCons (eTup (aCons (eC (.int 1)) aNil)) aNil)))) sNext)
  (t__law_form_1))
def t__law_quotient_2 : DS :=
  (sRet (eCall sp_lform [] (aCons (eVar 3) (aCons (eVar 4) aNil))))
def t__law_quotient_1 : DS :=
  (sSeq (sIf (tVal (eBin oEq (eVar 4) (eTup aNil))) (sSet 4 (eTup (aCons (eBin oAdd (eC (.int 1)) (eCall sp_draw [] (aCons (eVar 0) (aCons (eC (.int 9)) aNil)))) aNil))) sNext)
  (t__law_quotient_2))
/-- _law_quotient: 0 _law_purse_here, 1 _law_most, 2 _law_signs, 3 _law_top, 4 _law_bottom -/
def t__law_quotient : DS :=
  (sSeq (sPar 3 4 (eCall sp_lpoly [] (aCons (eVar 0) (aCons (eVar 1) (aCons (eVar 2) aNil)))) (eCall sp_lpoly [] (aCons (eVar 0) (aCons (eVar 1) (aCons (eVar 2) aNil)))))
  (t__law_quotient_1))
theorem co_zeros (n k : Nat) : co (List.replicate n 0) k = 0 := by
  have := co_rep n [] k
  rw [List.append_nil] at this
  rw [this, co_nil]
  split <;> rfl
/-- what stands while q is laid bare: j figures are left -/
structure Div1 (a g q : List Int) (f one : List Int) (j : Nat) : Prop where
  jl : j ≤ q.length
  fl : f.length = q.length
  fz : ∀ i, i < j → co f i = 0
  fe : ∀ t, ev f t + ev (q.take j) t = ev q t
  to : Trim one
  oe : ∀ t, ev one t = ev (q.take j) t * ev g t
  bits : ∀ n m, Bits n a → Bits m g → Bits (n + (q.length - j) * (m + 1)) one
theorem sem__law_divided : ∀ ds S Q E, sp_ldivided ds S Q E → t__law_divided (bodyEX E) (bodyEnds Q) (dstart ["_law_one", "_law_part", "_law_found", "_law_shift"] ds) S := by
  rintro ds S Q E ⟨a, g, rfl, ta, na, pg, ng, dg, la, lg, ⟨n, m, bn, bm, hnm⟩, h⟩
  show t__law_divided (bodyEX E) (bodyEnds Q) [some (PT a), some (PT g), none, none] S
  obtain ⟨q, tq, eq⟩ := Dv.whole dg pg ta
  have nq : q ≠ [] := by
    rintro rfl
    obtain ⟨t, ht⟩ := ne_worth ta na
    exact ht (by rw [eq t]; show 0 * _ = 0; rw [Int.zero_mul])
  have ea : a = pmul q g := ev_ext ta (pmul_trim _ _) fun t => by rw [ev_pmul]; exact eq t
  have lq : a.length = q.length + g.length - 1 := by rw [ea]; exact pmul_len tq pg.trim nq ng
  have l0 := List.length_pos_iff.mpr nq
  have l1 := List.length_pos_iff.mpr ng
  have glast : g.getLastD 1 ≠ 0 := pg.trim
  unfold t__law_divided
  simp only [sSeq, sSet, eBin, eLst, eC, aCons, aNil, eB, eVar, List.getElem?_cons_zero, List.getElem?_cons_succ, oLen_t, onI_ii, oAdd_ii, List.length_map, List.length_cons, List.length_nil]
  refine ⟨sz1, fun p np => ?_⟩
  refine ⟨[.int 0], sup_same, by omega, by omega, size_le (by simp; omega), fun r nr => ?_⟩
  rw [show ((a.length : Int) - (g.length : Int) + 1).toNat = q.length by omega, flat_zeros]
  unfold t__law_divided_1
  simp only [sSeq, List.set_cons_zero, List.set_cons_succ]
  have sb : ∀ f : List Int, Sub S (sup (sup S p (.lst [.int 0])) r (.lst (f.map D.int))) := fun f => (Sub.new np).trans (Sub.new nr)
  refine ⟨fun w δ S' => ∃ (f one : List Int) (j : Nat) (o3 : Option D), Div1 a g q f one j ∧ δ = [some (PT one), some (PT g), some (.ref r), o3] ∧ S' = sup (sup S p (.lst [.int 0])) r (.lst (f.map D.int)) ∧ w = j,
    ⟨_, List.replicate q.length 0, a, q.length, none, ⟨Nat.le_refl _, by simp, fun i _ => co_zeros _ _, fun t => by rw [ev_zeros, List.take_length]; omega, ta, fun t => by rw [List.take_length]; exact eq t, fun n m bn _ => bn.mono (Nat.le_add_right _ _)⟩, rfl, rfl, rfl⟩, ?_⟩
  rintro w δ S' ⟨f, one, j, o3, k, rfl, rfl, rfl⟩
  walk_at "dl"
  refine ⟨sz0, ?_⟩
  by_cases c : one = []
  · subst c
    rw [if_neg (not_not_intro rfl)]
    have z : ∀ t, ev (q.take w) t = 0 := fun t => by
      have e0 : cutI (q.take w) = [] := by
        by_cases y : cutI (q.take w) = []
        · exact y
        · exact absurd (nil_of_ev (pmul_trim _ _) fun t => by rw [ev_pmul, ev_cutI, ← k.oe t]; rfl) (pmul_ne (cutI_trim _) pg.trim y ng)
      rw [← ev_cutI, e0]
      rfl
    have fe : ∀ t, ev f t = ev q t := fun t => by have := k.fe t; rw [z t] at this; omega
    have nf : f ≠ [] := by rintro rfl; have := k.fl; simp at this; omega
    have tf : Trim f := by
      unfold Trim
      rw [← co_last nf, k.fl, co_of_ev fe, co_last nq]
      exact tq
    have e : f = q := ev_ext tf tq fe
    subst e
    unfold t__law_divided_2
    walk_at "dl"
    exact ⟨S, sb f, h f tq eq⟩
  · rw [if_pos c]
    have ny : cutI (q.take w) ≠ [] := fun y => by
      obtain ⟨t, ht⟩ := ne_worth k.to c
      exact ht (by rw [k.oe t, ← ev_cutI, y]; show 0 * _ = 0; rw [Int.zero_mul])
    generalize hy : cutI (q.take w) = y at ny
    have ty : Trim y := by rw [← hy]; exact cutI_trim _
    have ey : ∀ t, ev y t = ev (q.take w) t := fun t => by rw [← hy, ev_cutI]
    have ly := List.length_pos_iff.mpr ny
    have lyw : y.length ≤ w := by
      have := cutI_len (q.take w)
      rw [hy, List.length_take] at this
      omega
    have eo : one = pmul y g := ev_ext k.to (pmul_trim _ _) fun t => by rw [ev_pmul, ey t]; exact k.oe t
    have lo : one.length = y.length + g.length - 1 := by rw [eo]; exact pmul_len ty pg.trim ny ng
    have hlast : one.getLastD 1 = y.getLastD 1 * g.getLastD 1 := by
      rw [← co_last c, lo, eo, show y.length + g.length - 1 - 1 = y.length + g.length - 2 by omega]
      unfold pmul
      rw [co_cutI]
      exact mulL_top y g ny ng
    have hjq := k.jl
    have cy : ∀ i, co y i = if i < w then co q i else 0 := fun i => by rw [← hy, co_cutI, co_take]
    have hc : y.getLastD 1 = co q (y.length - 1) := by rw [← co_last ny, cy, if_pos (by omega)]
    unfold t__law_divided_1_0
    walk_at "dl"
    simp only [List.length_map]
    unfold t__law_divided_1_1
    walk_at "dl"
    rw [ix_lastI c, ix_lastI ng]
    walk_at "dl"
    have es : (one.length : Int) - (g.length : Int) = ((y.length - 1 : Nat) : Int) := by omega
    have ef : (one.getLastD 1).fdiv (g.getLastD 1) = co q (y.length - 1) := by rw [hlast, Int.mul_fdiv_cancel _ glast, hc]
    rw [es, ef, List.length_map, ixN_nat (by rw [k.fl]; omega)]
    refine ⟨glast, ?_⟩
    generalize hcq : co q (y.length - 1) = cq at *
    have bone := k.bits n m bn bm
    have bcq : cq.natAbs < 2 ^ (n + (q.length - w) * (m + 1)) := by
      have h1 := natAbs_le_mul (p := cq) glast
      rw [← hc, ← hlast, ← co_last c] at h1
      exact Nat.lt_of_le_of_lt (by rw [← hc]; exact h1) (bone _)
    have room : n + (q.length - w) * (m + 1) + m ≤ 100000000 := by
      have : (q.length - w + 1) * (m + 1) ≤ (a.length + 1) * (m + 1) := Nat.mul_le_mul_right _ (by omega)
      rw [Nat.add_mul, Nat.one_mul] at this
      omega
    have fset : f.set (y.length - 1) cq = f.set (y.length - 1) (co f (y.length - 1) + cq) := by rw [k.fz _ (by omega), Int.zero_add]
    have es2 : sup (sup (sup S p (.lst [.int 0])) r (.lst (f.map D.int))) r (.lst ((f.map D.int).set (y.length - 1) (.int cq))) = sup (sup S p (.lst [.int 0])) r (.lst ((f.set (y.length - 1) cq).map D.int)) := by rw [sup_sup, set_map]
    dsimp only
    rw [es2]
    unfold t__law_divided_1_2
    walk_at "dl"
    refine ⟨sz1, ⟨by omega, by omega, by decide⟩, ?_⟩
    rw [cut_at (by rw [List.length_set, k.fl]; omega)]
    have ecs : co (f.set (y.length - 1) cq) (y.length - 1) = cq := by
      unfold co List.getD
      rw [List.getElem?_set_self (by rw [k.fl]; omega)]
      rfl
    rw [ecs]
    refine ⟨sz1, ?_, ?_⟩
    · rw [Int.toNat_natCast, flat_zeros, List.length_map, List.length_replicate]
      exact size_le (by simp; omega)
    rw [Int.toNat_natCast, flat_zeros]
    have e1 : (List.replicate (y.length - 1) (0 : Int)).map D.int ++ [D.int cq] = (List.replicate (y.length - 1) 0 ++ [cq]).map D.int := by rw [List.map_append]; rfl
    rw [e1]
    show sp_lproduct [PT (List.replicate (y.length - 1) 0 ++ [cq]), PT g] _ _ _
    rw [call_lproduct]
    have lpp := Nat.le_trans (cutI_len (mulL (List.replicate (y.length - 1) 0 ++ [cq]) g)) (mulL_len_le _ g)
    simp only [List.length_append, List.length_replicate, List.length_cons, List.length_nil] at lpp
    refine ⟨by simp; omega, by omega, fun x hx v hv => ?_, ?_⟩
    · rcases List.mem_append.mp hx with hx | hx
      · rw [(List.mem_replicate.mp hx).2]
        exact mulok_left (by decide) (by decide)
      · rw [List.mem_singleton.mp hx]
        exact mul_ok bcq (bm.mem hv) room
    walk_at "dl"
    refine ⟨by omega, by unfold pmul; omega, fun x hx => mulok_left (by decide) (by decide), ?_⟩
    refine ⟨y.length - 1, by omega, f.set (y.length - 1) cq, _, y.length - 1, _, ⟨by omega, by rw [List.length_set]; exact k.fl, fun i hi => ?_, fun t => ?_, cutI_trim _, fun t => ?_, fun n m bn bm => ?_⟩, rfl, rfl, rfl⟩
    · have : co (f.set (y.length - 1) cq) i = co f i := by
        unfold co List.getD
        rw [List.getElem?_set_ne (by omega)]
      rw [this]
      exact k.fz i (by omega)
    · rw [fset, ev_set t _ f _ (by rw [k.fl]; omega)]
      have h1 := k.fe t
      have h2 : ev (q.take w) t = ev (q.take (y.length - 1)) t + cq * t ^ (y.length - 1) := by
        rw [← ey t]
        have h3 : ∀ t, ev y t = ev (q.take y.length) t := fun t => ev_congr (fun i => by
          rw [cy, co_take]
          by_cases hi : i < y.length
          · rw [if_pos (by omega), if_pos hi]
          · rw [if_neg hi, ← cy, co_ge (by omega)]) t
        rw [h3 t]
        have h4 := ev_take_succ t q (y.length - 1)
        rw [show y.length - 1 + 1 = y.length by omega, hcq] at h4
        exact h4
      omega
    · unfold scaleL
      rw [ev_cutI, ev_addL, ev_scale, ev_pmul, ev_rep, k.oe t]
      have h2 : ev (q.take w) t = ev (q.take (y.length - 1)) t + cq * t ^ (y.length - 1) := by
        rw [← ey t]
        have h3 : ∀ t, ev y t = ev (q.take y.length) t := fun t => ev_congr (fun i => by
          rw [cy, co_take]
          by_cases hi : i < y.length
          · rw [if_pos (by omega), if_pos hi]
          · rw [if_neg hi, ← cy, co_ge (by omega)]) t
        rw [h3 t]
        have h4 := ev_take_succ t q (y.length - 1)
        rw [show y.length - 1 + 1 = y.length by omega, hcq] at h4
        exact h4
      rw [h2]
      show _ + -1 * (_ * (cq + t * 0) * _) = _
      generalize t ^ (y.length - 1) = z
      grind
    · have bone := k.bits n m bn bm
      have bcq : cq.natAbs < 2 ^ (n + (q.length - w) * (m + 1)) := by
        have h1 := natAbs_le_mul (p := cq) glast
        rw [← hc, ← hlast, ← co_last c] at h1
        exact Nat.lt_of_le_of_lt (by rw [← hc]; exact h1) (bone _)
      have bp : Bits (n + (q.length - w) * (m + 1) + m) (pmul (List.replicate (y.length - 1) 0 ++ [cq]) g) := fun i => by
        have : co (pmul (List.replicate (y.length - 1) 0 ++ [cq]) g) i = co (raiseI (pscaleI cq g) (y.length - 1)) i := co_of_ev (fun t => by
          rw [ev_pmul, ev_rep, ev_raiseI, ev_pscaleI]
          show _ * (cq + t * 0) * _ = _
          grind) i
        rw [this]
        exact ((bm.scale bcq (Nat.le_of_eq (Nat.add_comm _ _))).cut.raise) i
      have e3 : (q.length - (y.length - 1)) * (m + 1) ≥ (q.length - w) * (m + 1) + (m + 1) := by
        have : (q.length - w + 1) * (m + 1) ≤ (q.length - (y.length - 1)) * (m + 1) := Nat.mul_le_mul_right _ (by omega)
        rw [Nat.add_mul, Nat.one_mul] at this
        exact this
      exact ((bone.mono (Nat.le_add_right _ m)).addL (Bits.neg bp) (by omega)).cut
theorem form_6 {EX : EXK} {Q : DK} {S : Sto} {t1 b1 : List Int} {w : Int} (w0 : w ≠ 0) (l1 : t1.length ≤ 100) (l2 : b1.length ≤ 100) {o2 o4 : Option D} (h : Q (.tup [PT (partI t1 w), PT (partI b1 w)]) S) :
    t__law_form_6 EX (bodyEnds Q) [some (PT t1), some (PT b1), o2, some (.int w), o4] S := by
  unfold t__law_form_6
  walk_at "dl"
  intro p np
  refine lc_ints (f := fun x => x.fdiv w) t1 [] (fun _ => trivial) (by simp; omega) (fun x hx acc' Q' q => ?_) ?_
  · simp only [dwipe]
    walk_at "dl"
    exact ⟨w0, q⟩
  · rw [rdAt_sup]
    dsimp only
    intro p2 np2
    refine lc_ints (f := fun x => x.fdiv w) b1 [] (fun _ => trivial) (by simp; omega) (fun x hx acc' Q' q => ?_) ?_
    · simp only [dwipe]
      walk_at "dl"
      exact ⟨w0, q⟩
    · rw [rdAt_sup]
      exact ⟨sz2, S, (Sub.new np).trans (Sub.new np2), h⟩
theorem sem__law_form : ∀ ds S Q E, sp_lform ds S Q E → t__law_form (bodyEX E) (bodyEnds Q) (dstart ["_law_top", "_law_bottom", "_law_part", "_law_whole_here", "_law_entry"] ds) S := by
  rintro ds S Q E ⟨t, b, rfl, tt, tb, nb, ⟨lt, lb, M, bt, bb, hM⟩, h⟩
  show t__law_form (bodyEX E) (bodyEnds Q) [some (PT t), some (PT b), none, none, none] S
  unfold t__law_form
  walk_at "dl"
  refine ⟨sz0, ?_⟩
  by_cases nt : t = []
  · subst nt
    rw [if_pos rfl]
    exact ⟨sz0, sz1, sz2, S, Sub.refl S, h [] [1] (form_zero b)⟩
  · rw [if_neg nt]
    unfold t__law_form_1
    walk_at "dl"
    refine ⟨tt, tb, ⟨lt, lb, M, bt, bb, hM⟩, fun g ok => ?_⟩
    have ng := (ok.gcd.right.len tb ok.gcd.plain.trim nb).1
    have lgt := (ok.gcd.left.len tt ok.gcd.plain.trim nt).2
    have lgb := (ok.gcd.right.len tb ok.gcd.plain.trim nb).2
    have lg0 := List.length_pos_iff.mpr ng
    have bg := dv_bits40 bt lt tt nt ok.gcd.plain ok.gcd.left
    have room : ∀ x : List Int, x.length ≤ 40 → M + (x.length + 1) * (M + 560 + 1) ≤ 100000000 := fun x hx => by
      have : (x.length + 1) * (M + 560 + 1) ≤ 41 * (M + 560 + 1) := Nat.mul_le_mul_right _ (by omega)
      omega
    unfold t__law_form_2
    walk_at "dl"
    refine ⟨tt, nt, ok.gcd.plain, ng, ok.gcd.left, by omega, by omega, ⟨M, M + 560, bt, bg, room t lt⟩, fun t1 tt1 et => ?_⟩
    refine ⟨tb, nb, ok.gcd.plain, ng, ok.gcd.right, by omega, by omega, ⟨M, M + 560, bb, bg, room b lb⟩, fun b1 tb1 eb => ?_⟩
    have nt1 : t1 ≠ [] := by
      rintro rfl
      obtain ⟨s, hs⟩ := ne_worth tt nt
      exact hs (by rw [et s]; show 0 * _ = 0; rw [Int.zero_mul])
    have nb1 : b1 ≠ [] := by
      rintro rfl
      obtain ⟨s, hs⟩ := ne_worth tb nb
      exact hs (by rw [eb s]; show 0 * _ = 0; rw [Int.zero_mul])
    have lt1 : t1.length ≤ t.length := ((dv_of_fac et).len tt tt1 nt).2
    have lb1 : b1.length ≤ b.length := ((dv_of_fac eb).len tb tb1 nb).2
    unfold t__law_form_3
    walk_at "dl"
    unfold t__law_form_4
    walk_at "dl"
    refine ⟨by simp only [List.length_map]; exact size_le (by omega), ?_⟩
    rw [← List.map_append]
    have cpos : 0 < contI 0 (t1 ++ b1) := by
      have h1 := contI_nonneg (t1 ++ b1) 0 (Int.le_refl 0)
      have h2 := (contI_dvd (t1 ++ b1) 0).2 _ (List.mem_append_right t1 (last_mem nb1))
      by_cases e : contI 0 (t1 ++ b1) = 0
      · rw [e] at h2
        exact absurd (Int.zero_dvd.mp h2) tb1
      · omega
    refine for_inv (fun l δ S' => ∃ (rr : List Int) (g' : Int) (o4 : Option D), l = rr.map D.int ∧ δ = [some (PT t1), some (PT b1), some (PT g), some (.int g'), o4] ∧ S' = S ∧ contI g' rr = contI 0 (t1 ++ b1)) (fun _ _ _ _ => trivial) ?_ ?_ _ _ _ ⟨t1 ++ b1, 0, none, rfl, rfl, rfl, rfl⟩
    · rintro d l δ S' T' ⟨rr, g', o4, e, rfl, rfl, hc⟩ nx ct rt bk
      cases rr with
      | nil => cases e
      | cons x rr =>
        rw [List.map_cons, List.cons.injEq] at e
        obtain ⟨rfl, rfl⟩ := e
        walk_at "dl"
        exact nx _ _ ⟨rr, _, _, rfl, rfl, rfl, hc⟩
    · rintro δ S' ⟨rr, g', o4, e, rfl, rfl, hc⟩
      cases rr with
      | cons x rr => cases e
      | nil =>
        have hc' : g' = contI 0 (t1 ++ b1) := hc
        subst hc'
        have tb0 : b1.getLastD 1 ≠ 0 := tb1
        unfold t__law_form_5
        walk_at "dl"
        rw [ix_lastI nb1]
        walk_at "dl"
        by_cases c : b1.getLastD 1 < 0
        · rw [if_pos c]
          refine form_6 (by omega) (by omega) (by omega) (h _ _ (form_make nt tb nb ok.gcd tt1 tb1 et eb nb1 (by omega) (by omega) ?_))
          rw [Int.neg_mul]
          have := Int.mul_pos cpos (show 0 < -(b1.getLastD 1) by omega)
          rw [Int.mul_neg] at this
          exact this
        · rw [if_neg c]
          exact form_6 (by omega) (by omega) (by omega) (h _ _ (form_make nt tb nb ok.gcd tt1 tb1 et eb nb1 rfl (by omega) (Int.mul_pos cpos (by omega))))
theorem sem__law_quotient : ∀ ds S Q E, sp_lquotient ds S Q E → t__law_quotient (bodyEX E) (bodyEnds Q) (dstart ["_law_purse_here", "_law_most", "_law_signs", "_law_top", "_law_bottom"] ds) S := by
  rintro ds S Q E ⟨p, most, signs, rfl, hp, h0, h1, h2, h3, h⟩
  show t__law_quotient (bodyEX E) (bodyEnds Q) [some (.ref p), some (.int most), some (.int signs), none, none] S
  unfold t__law_quotient
  walk_at "dl"
  refine ⟨hp, h0, by omega, h2, by omega, fun t S1 lt tt dt b1 hp1 => ⟨hp1, h0, by omega, h2, by omega, fun b S2 lb tb db b2 hp2 => ?_⟩⟩
  have bits : ∀ {x : List Int}, Drawn signs x → Bits 104 x := fun dx => dx.bits (by
    have : (10 : Int) ^ 31 < 2 ^ 104 := by decide
    omega) (by decide)
  unfold t__law_quotient_1
  walk_at "dl"
  refine ⟨sz0, ?_⟩
  by_cases nb : b = []
  · rw [if_pos nb]
    refine ⟨hp2, by decide, by decide, fun d S3 d0 d1 b3 hp3 => ⟨sz1, ?_⟩⟩
    show t__law_quotient_2 (bodyEX E) (bodyEnds Q) [some (.ref p), some (.int most), some (.int signs), some (PT t), some (PT [1 + d])] S3
    unfold t__law_quotient_2
    simp only [sRet, eCall, aCons, aNil, eVar, List.getElem?_cons_zero, List.getElem?_cons_succ, List.append_nil, call_lform]
    have d10 : Drawn 10 [1 + d] := fun x hx => by rw [List.mem_singleton.mp hx]; omega
    have tb' : Trim [1 + d] := trim_one.mpr (by omega)
    refine ⟨tt, tb', by simp, Small.mk' (n := 104) (m := 104) (by omega) (by simp) (bits dt) (d10.bits (by decide) (by decide)) (by decide) (by decide), fun u v ok => ⟨S3, Sub.refl S3, ?_⟩⟩
    exact h t _ u v S3 tt tb' (by simp) (.inl (by omega)) (.inr (by simp)) dt (.inr d10) ok ((b1.trans b2).trans b3) hp3
  · rw [if_neg nb]
    unfold t__law_quotient_2
    walk_at "dl"
    refine ⟨tt, tb, nb, Small.mk' (n := 104) (m := 104) (by omega) (by omega) (bits dt) (bits db) (by decide) (by decide), fun u v ok => ⟨S2, Sub.refl S2, ?_⟩⟩
    exact h t b u v S2 tt tb nb (.inl (by omega)) (.inl (by omega)) dt (.inl db) ok (b1.trans b2) hp2
theorem wb {a : List Int} {x : Rat} {n m : Nat} (ba : Bits n a) (bx : RB m x) (h1 : 1 ≤ n) (hl : (a.length + 2) * (n + m + 1) ≤ 20000000) : RB 20000001 (evQ a x) := by
  refine (worth_bits ba bx h1).mono ?_
  rw [Nat.add_mul] at hl
  omega
theorem sem_q_worth {C : Cs} : ∀ ds S Q E, sp_qworth C ds S Q E → t_q_worth C (bodyEX E) (bodyEnds Q) (dstart ["one", "at", "bottom"] ds) S := by
  rintro ds S Q E ⟨u, v, x, rfl, lu, lv, ⟨n, m, bu, bv, bx, h1, hu, hv⟩, h0, h⟩
  show t_q_worth C (bodyEX E) (bodyEnds Q) [some (.tup [PT u, PT v]), some (NQ x), none] S
  unfold t_q_worth
  walk_at "dl"
  refine ⟨lv, ⟨n, m, bv, bx, h1, by omega⟩, ?_⟩
  unfold t_q_worth_1
  walk_at "dl"
  by_cases z : evQ v x = 0
  · rw [if_pos (num_zero.mpr z)]
    exact ⟨S, Sub.refl S, h0 z⟩
  · rw [if_neg (fun y => z (num_zero.mp y))]
    unfold t_q_worth_2
    walk_at "dl"
    refine ⟨lu, ⟨n, m, bu, bx, h1, by omega⟩, ?_⟩
    exact call_overR (wb bu bx h1 hu) (wb bv bx h1 hv) (by decide) z ⟨S, Sub.refl S, h z⟩
end DL
end L2

/-! CT: constant tuples of a module, read by their names. -/
namespace L2
namespace DL
open PySem PySem.Spec PyProof PyProof.Rows
mutual
/-- a value that never changes, as K has it -/
inductive KD (K : PySem.W.Frag) : D → Value → Prop
  | int (i : Int) (t : Tok) : KD K (.int i) (.int i t)
  | str (x : Str) (t : Tok) : KD K (.str x) (.str x t)
  | tup {ds : List D} {a : Addr} {od : Option Addr} {its : Array Value} {n : Nat} {sl : Array (Option Value)} : K.lookup a = some ⟨.type "tuple", od, .seq its n, sl⟩ → its.size ≤ sizeLine → KDs K ds its.toList → KD K (.tup ds) (.ref a)
inductive KDs (K : PySem.W.Frag) : List D → List Value → Prop
  | nil : KDs K [] []
  | cons {d : D} {v : Value} {ds : List D} {vs : List Value} : KD K d v → KDs K ds vs → KDs K (d :: ds) (v :: vs)
end
mutual
theorem KD.rep {K : PySem.W.Frag} : ∀ {d : D} {v : Value}, KD K d v → ∃ w, RelV w v ∧ ∀ H, Rep K H d w
  | _, _, .int i t => ⟨.int i, ⟨t, rfl⟩, fun H => .int i⟩
  | _, _, .str x t => ⟨.str x, ⟨t, rfl⟩, fun H => .str x⟩
  | _, _, .tup (ds := ds) (a := a) h hz k => by
    obtain ⟨ws, rv, rr⟩ := KDs.reps k
    exact ⟨.ref a, rfl, fun H => .tup (.inr ⟨_, _, _, h, rfl, rfl, hz, rv⟩) (rr H)⟩
theorem KDs.reps {K : PySem.W.Frag} : ∀ {ds : List D} {vs : List Value}, KDs K ds vs → ∃ ws, Vals ws vs ∧ ∀ H, Reps K H ds ws
  | _, _, .nil => ⟨[], .nil, fun _ => .nil⟩
  | _, _, .cons k ks => by
    obtain ⟨w, r1, r2⟩ := KD.rep k
    obtain ⟨ws, r3, r4⟩ := KDs.reps ks
    exact ⟨w :: ws, .cons r1 r3, fun H => .cons (r2 H) (r4 H)⟩
end
/-- a module's constant tuple by its name -/
structure KT (K : PySem.W.Frag) (mg : Str → Option Value) (x : Str) (d : D) : Prop where
  ex : ∃ a, mg x = some (.ref a) ∧ KD K d (.ref a)
theorem ie_kt {X : Cx} {x : Str} {d : D} {pos : Pos} (k : KT X.K X.mg x d) (hg : Gl X x := by rfl) (hd : (x == ("__debug__" : Str)) = false := by decide) : IsE X (.Name x pos) (eC d) := by
  obtain ⟨a, hm, kd⟩ := k.ex
  obtain ⟨w, r1, r2⟩ := kd.rep
  exact ie_c (pe_glob (v := w) hg hm r1 hd) fun _ => r2 _
end DL
end L2

/-! SPg: quotients reckoned: what is promised. -/
namespace L2
namespace DL
open PySem PySem.Spec PyProof PyProof.Rows
theorem plain_one : Plain [1] := ⟨trim_one.mpr (by decide), fun _ => by decide, fun _ => by decide⟩
theorem dv_const {d b : List Int} (h : Dv d b) (tb : Trim b) (hl : b.length = 1) : Dv d [1] := by
  obtain ⟨c, hc⟩ := List.length_eq_one_iff.mp hl
  subst hc
  obtain ⟨k, q, hk, e⟩ := h
  refine ⟨k * c, q, Int.mul_ne_zero hk (trim_one.mp tb), fun t => ?_⟩
  have := e t
  have h1 : ev [c] t = c := by show c + t * 0 = c; omega
  have h2 : ev [1] t = 1 := by show 1 + t * 0 = 1; omega
  rw [h1] at this
  rw [h2, Int.mul_one]
  exact this
theorem gcd_const {t b : List Int} (tt : Trim t) (tb : Trim b) (h : t.length = 1 ∨ b.length = 1) : IsGcd t b [1] :=
  ⟨plain_one, one_dv t, one_dv b, fun d p q => by
    rcases h with h | h
    · exact dv_const p tt h
    · exact dv_const q tb h⟩
/-- dividing by a divisor -/
theorem long_exact {a g q r : List Int} {o : Int} (ta : Trim a) (pg : Plain g) (ng : g ≠ []) (d : Dv g a) (k : LongOk a g o q r) : (∀ t, ev a t = ev q t * ev g t) ∧ r = [] := by
  obtain ⟨q', tq, e⟩ := d.whole pg ta
  have ea : a = pmul q' g := ev_ext ta (pmul_trim _ _) fun t => by rw [ev_pmul]; exact e t
  have k' : LongOk (pmul q' g) g o q r := ea ▸ k
  have op := k'.op
  have er : r = [] := by
    refine Dv.short (b := g) ⟨1, addL (scaleL o q') (scaleL (-1) q), by decide, fun t => ?_⟩ k'.tr pg.trim k'.lt
    have := k'.eq t
    rw [ev_pmul] at this
    unfold scaleL
    rw [ev_addL, ev_scale, ev_scale]
    grind
  subst er
  have eq : q = scaleL o q' := by
    have z : cutI (addL (scaleL o q') (scaleL (-1) q)) = [] := by
      by_cases c : cutI (addL (scaleL o q') (scaleL (-1) q)) = []
      · exact c
      · exfalso
        refine pmul_ne (cutI_trim _) pg.trim c ng (nil_of_ev (pmul_trim _ _) fun t => ?_)
        have := k'.eq t
        rw [ev_pmul, show ev [] t = 0 from rfl] at this
        rw [ev_pmul, ev_cutI]
        unfold scaleL
        rw [ev_addL, ev_scale, ev_scale]
        grind
    refine ev_ext k'.tq (scaleL_trim (by omega) tq) fun t => ?_
    have := ev_cutI (addL (scaleL o q') (scaleL (-1) q)) t
    rw [z, show ev [] t = 0 from rfl] at this
    unfold scaleL at this ⊢
    rw [ev_addL, ev_scale, ev_scale] at this
    rw [ev_scale]
    omega
  have one := k'.one
  have cm : contI o (scaleL o q') = o := by
    have n0 := contI_nonneg (scaleL o q') o (by omega)
    refine Int.dvd_antisymm n0 (by omega) (contI_dvd _ o).1 (dvd_contI _ o (Int.dvd_refl o) fun x hx => ?_)
    obtain ⟨y, _, rfl⟩ := List.mem_map.mp hx
    exact ⟨y, rfl⟩
  rw [List.append_nil, eq, cm] at one
  subst one
  refine ⟨fun t => ?_, rfl⟩
  rw [e t, eq]
  unfold scaleL
  rw [ev_scale, Int.one_mul]
def sp_quotient (C : Cs) : DSp := fun ds S Q E => ∃ t b, ds = [PT t, PT b] ∧ (b = [] → E C.nn S) ∧ (b ≠ [] → Trim t ∧ Trim b ∧ Small t b ∧ ∀ u v, FormOk t b u v → Q (.tup [PT u, PT v]) S)
def sp_wcommon (C : Cs) : DSp := fun ds S Q _ => ∃ a g, ds = [PT a, PT g] ∧ Trim a ∧ a ≠ [] ∧ Plain g ∧ g ≠ [] ∧ Dv g a ∧ a.length ≤ 100 ∧ (∃ n m, Bits n a ∧ Bits m g ∧ n + (a.length + 1) * (m + 1) ≤ 100000000) ∧ ∀ q, Trim q → (∀ t, ev a t = ev q t * ev g t) → Q (PT q) S
section
variable {C : Cs} {S : Sto} {Q : DK} {E : Addr → Sto → Prop} {a b t g : List Int}
theorem call_quotient : sp_quotient C [PT t, PT b] S Q E = ((b = [] → E C.nn S) ∧ (b ≠ [] → Trim t ∧ Trim b ∧ Small t b ∧ ∀ u v, FormOk t b u v → Q (.tup [PT u, PT v]) S)) :=
  propext ⟨fun ⟨_, _, e, h⟩ => by simp only [List.cons.injEq] at e; obtain ⟨e1, e2, _⟩ := e; obtain rfl := pt_inj e1; obtain rfl := pt_inj e2; exact h, fun h => ⟨_, _, rfl, h⟩⟩
theorem call_wcommon : sp_wcommon C [PT a, PT g] S Q E = (Trim a ∧ a ≠ [] ∧ Plain g ∧ g ≠ [] ∧ Dv g a ∧ a.length ≤ 100 ∧ (∃ n m, Bits n a ∧ Bits m g ∧ n + (a.length + 1) * (m + 1) ≤ 100000000) ∧ ∀ q, Trim q → (∀ t, ev a t = ev q t * ev g t) → Q (PT q) S) :=
  propext ⟨fun ⟨_, _, e, h⟩ => by simp only [List.cons.injEq] at e; obtain ⟨e1, e2, _⟩ := e; obtain rfl := pt_inj e1; obtain rfl := pt_inj e2; exact h, fun h => ⟨_, _, rfl, h⟩⟩
end
end DL
end L2

namespace L2
namespace DL
open PySem PySem.Spec PyProof PyProof.Rows
local macro_rules | `(tactic| walk_at "dl") => `(tactic| simp only [sSeq, sSet, sIf, sRet, sPar, sNext, sDrop, sAsg, sRaise, eBin, eUn, eVar, eC, eB, eM, eM0, eTup, eLst, eCall, eAndV, eOrV, eNotV, eIf, aCons, aNil, tVal, tAndD, tOrD, tNotD, cBl, dName, dSub, dTup, dLst, dCons, dNil,
  onI_ii, onIC_ii, oAdd_ii, oAdd_tt, oIadd_ii, oMul_ii, oNeg_i, oEq_ii, oNe_ii, oIx_t, oIx_v, oIx_r, oLen_t, oLen_v, oLen_r, oAbs_i, o2I_ii, oInt_i, oInt_b, oTuple_t, oTuple_r, isi_int, isi_bool, isi_tup, oSet_r, oAppend_r, isL_r, iLstD_r, lstAt_sup, rdAt_sup, ix0, ix1, ix2, ix3, sFor, iRange1, iRange2,
  call_divisor, call_number, call_draw, call_whole, call_isWhole, call_isNumber, call_low, call_told, call_lover, call_right,
  call_content, call_parted, call_plain, call_isPoly, call_lpoly, oEq_pp, oNe_pp, oEq_p0, oNe_p0, iTupD, eLc, oMul_t, eSl, pNone, pSome, cSl, sAug, eLstRg1, tYesD, sPar3, call_figAt, call_pplus, call_pminus, call_scaled, call_raised, call_lsum, call_lproduct, call_ptimes, call_head, call_restBy, call_longdiv, call_lleft, call_common, call_lcommon, call_pslope, call_lslope, call_worth, call_lworth, call_lnumber, oNe_qq, iEnumTup, iRevTup, iRange2, call_ldivided, call_lform, call_lquotient, call_qworth, call_quotient, call_wcommon,
  bodyEnds, bodyEX, List.set_cons_zero, List.set_cons_succ, List.getElem?_cons_zero, List.getElem?_cons_succ, decide_eq_true_eq, Bool.not_eq_true', decide_eq_false_iff_not, List.nil_append, List.append_nil, List.cons_append, Bool.false_eq_true, if_false, if_true, true_and, and_true])
/-- without_common: 0 one, 1 part -/
def t_without_common (C : Cs) : DS :=
  (sRet (eIf (tVal (eBin oEq (eVar 1) (eTup (aCons (eC (.int 1)) aNil)))) (eVar 0) (eBin oIx (eCall (sp_longdiv C) [] (aCons (eVar 0) (aCons (eVar 1) aNil))) (eC (.int 1)))))
def t_quotient_5 (C : Cs) : DS :=
  (sRet (eTup (aCons (eCall sp_parted [] (aCons (eVar 0) (aCons (eVar 3) aNil))) (aCons (eCall sp_parted [] (aCons (eVar 1) (aCons (eVar 3) aNil))) aNil))))
def t_quotient_4 (C : Cs) : DS :=
  (sSeq (sIf (tVal (eBin oLt (eBin oIx (eVar 1) (eUn oNeg (eC (.int 1)))) (eC (.int 0)))) (sSet 3 (eUn oNeg (eVar 3))) sNext)
  (t_quotient_5 C))
def t_quotient_3 (C : Cs) : DS :=
  (sSeq (sSet 3 (eCall sp_divisor [] (aCons (eCall sp_content [] (aCons (eVar 0) aNil)) (aCons (eCall sp_content [] (aCons (eVar 1) aNil)) aNil))))
  (t_quotient_4 C))
def t_quotient_2 (C : Cs) : DS :=
  (sSeq (sIf (tAndD (tVal (eBin oGt (eB oLen (aCons (eVar 1) aNil)) (eC (.int 1)))) (tVal (eBin oGt (eB oLen (aCons (eVar 0) aNil)) (eC (.int 1))))) (sSeq (sSet 2 (eCall sp_common [] (aCons (eVar 0) (aCons (eVar 1) aNil))))
  (sPar 0 1 (eCall (sp_wcommon C) [] (aCons (eVar 0) (aCons (eVar 2) aNil))) (eCall (sp_wcommon C) [] (aCons (eVar 1) (aCons (eVar 2) aNil))))) sNext)
  (t_quotient_3 C))
/-- quotient: 0 top, 1 bottom, 2 part, 3 whole -/
def t_quotient (C : Cs) : DS :=
  (sSeq (sIf (tVal (eBin oEq (eVar 1) (eTup aNil))) (sRaise C.nn) sNext)
  (sSeq (sIf (tVal (eBin oEq (eVar 0) (eTup aNil))) (sRet (eC (.tup [(.tup []), (.tup [(.int 1)])]))) sNext)
  (t_quotient_2 C)))
theorem oEq_p1 {S : Sto} {Q : DK} {a : List Int} : oEq (PT a) (.tup [.int 1]) S Q = Q (.bl (decide (a = [1]))) S := oEq_pp (b := [1])
theorem sem_without_common {C : Cs} : ∀ ds S Q E, sp_wcommon C ds S Q E → t_without_common C (bodyEX E) (bodyEnds Q) (dstart ["one", "part"] ds) S := by
  rintro ds S Q E ⟨a, g, rfl, ta, na, pg, ng, dg, la, ⟨n, m, bn, bm, hnm⟩, h⟩
  show t_without_common C (bodyEX E) (bodyEnds Q) [some (PT a), some (PT g)] S
  unfold t_without_common
  walk_at "dl"
  rw [oEq_p1]
  walk_at "dl"
  refine ⟨sz1, ?_⟩
  by_cases c : g = [1]
  · rw [if_pos c]
    refine ⟨S, Sub.refl S, h a ta fun t => ?_⟩
    rw [c]
    show _ = _ * (1 + t * 0)
    grind
  · rw [if_neg c]
    have lg := List.length_pos_iff.mpr ng
    refine ⟨fun z => absurd z ng, fun _ => ⟨ta, pg.trim, by omega, ⟨n, m, bn, bm, ?_⟩, fun o q r k => ?_⟩⟩
    · have : (a.length + 1 - g.length + 1) * (m + 1) ≤ (a.length + 1) * (m + 1) := Nat.mul_le_mul_right _ (by omega)
      omega
    · obtain ⟨e, _⟩ := long_exact ta pg ng dg k
      exact ⟨S, Sub.refl S, h q k.tq e⟩
theorem quotient_3 {C : Cs} {EX : EXK} {S : Sto} {Q : DK} {t b g t1 b1 : List Int} (nt : t ≠ []) (tb : Trim b) (nb : b ≠ []) (ig : IsGcd t b g) (tt1 : Trim t1) (tb1 : Trim b1) (et : ∀ s, ev t s = ev t1 s * ev g s) (eb : ∀ s, ev b s = ev b1 s * ev g s)
    (l1 : t1.length ≤ 100) (l2 : b1.length ≤ 100) {o2 o3 : Option D} (h : ∀ u v, FormOk t b u v → Q (.tup [PT u, PT v]) S) : t_quotient_3 C EX (bodyEnds Q) [some (PT t1), some (PT b1), o2, o3] S := by
  have nb1 : b1 ≠ [] := by
    rintro rfl
    obtain ⟨s, hs⟩ := ne_worth tb nb
    exact hs (by rw [eb s]; show 0 * _ = 0; rw [Int.zero_mul])
  have cc : gcdI (contI 0 t1) (contI 0 b1) = contI 0 (t1 ++ b1) := by
    have n1 := gcdI_nonneg (contI 0 t1) (contI 0 b1)
    have n2 := contI_nonneg (t1 ++ b1) 0 (Int.le_refl 0)
    refine Int.dvd_antisymm n1 n2 (dvd_contI _ 0 (Int.dvd_zero _) fun x hx => ?_) (dvd_gcdI (dvd_contI t1 0 (Int.dvd_zero _) fun x hx => (contI_dvd (t1 ++ b1) 0).2 x (List.mem_append_left _ hx)) (dvd_contI b1 0 (Int.dvd_zero _) fun x hx => (contI_dvd (t1 ++ b1) 0).2 x (List.mem_append_right _ hx)))
    rcases List.mem_append.mp hx with hx | hx
    · exact Int.dvd_trans (gcdI_dvd_left _ _) ((contI_dvd t1 0).2 x hx)
    · exact Int.dvd_trans (gcdI_dvd_right _ _) ((contI_dvd b1 0).2 x hx)
  have cpos : 0 < contI 0 (t1 ++ b1) := by
    have h1 := contI_nonneg (t1 ++ b1) 0 (Int.le_refl 0)
    have h2 := (contI_dvd (t1 ++ b1) 0).2 _ (List.mem_append_right t1 (last_mem nb1))
    by_cases e : contI 0 (t1 ++ b1) = 0
    · rw [e] at h2
      exact absurd (Int.zero_dvd.mp h2) tb1
    · omega
  have tb0 : b1.getLastD 1 ≠ 0 := tb1
  unfold t_quotient_3
  walk_at "dl"
  unfold t_quotient_4
  walk_at "dl"
  rw [ix_lastI nb1, cc]
  walk_at "dl"
  by_cases c : b1.getLastD 1 < 0
  · rw [if_pos c]
    unfold t_quotient_5
    walk_at "dl"
    refine ⟨by omega, by omega, by omega, by omega, sz2, S, Sub.refl S, h _ _ (form_make nt tb nb ig tt1 tb1 et eb nb1 (by omega) (by omega) ?_)⟩
    rw [Int.neg_mul]
    have := Int.mul_pos cpos (show 0 < -(b1.getLastD 1) by omega)
    rw [Int.mul_neg] at this
    exact this
  · rw [if_neg c]
    unfold t_quotient_5
    walk_at "dl"
    exact ⟨by omega, by omega, by omega, by omega, sz2, S, Sub.refl S, h _ _ (form_make nt tb nb ig tt1 tb1 et eb nb1 rfl (by omega) (Int.mul_pos cpos (by omega)))⟩
theorem sem_quotient {C : Cs} : ∀ ds S Q E, sp_quotient C ds S Q E → t_quotient C (bodyEX E) (bodyEnds Q) (dstart ["top", "bottom", "part", "whole"] ds) S := by
  rintro ds S Q E ⟨t, b, rfl, h0, h1⟩
  show t_quotient C (bodyEX E) (bodyEnds Q) [some (PT t), some (PT b), none, none] S
  unfold t_quotient
  walk_at "dl"
  refine ⟨sz0, ?_⟩
  by_cases nb : b = []
  · rw [if_pos nb]
    exact ⟨S, Sub.refl S, h0 nb⟩
  · rw [if_neg nb]
    obtain ⟨tt, tb, ⟨lt, lb, M, bt, bb, hM⟩, h⟩ := h1 nb
    refine ⟨sz0, ?_⟩
    by_cases nt : t = []
    · rw [if_pos nt]
      subst nt
      exact ⟨S, Sub.refl S, h [] [1] (form_zero b)⟩
    · rw [if_neg nt]
      have lt0 := List.length_pos_iff.mpr nt
      have lb0 := List.length_pos_iff.mpr nb
      have const : t.length = 1 ∨ b.length = 1 → ∀ o2 o3, t_quotient_3 C (bodyEX E) (bodyEnds Q) [some (PT t), some (PT b), o2, o3] S := fun hc o2 o3 => quotient_3 nt tb nb (gcd_const tt tb hc) tt tb (fun s => by show _ = _ * (1 + s * 0); grind) (fun s => by show _ = _ * (1 + s * 0); grind) (by omega) (by omega) h
      unfold t_quotient_2
      walk_at "dl"
      simp only [List.length_map]
      by_cases c1 : (1 : Int) < b.length
      · rw [if_pos c1]
        by_cases c2 : (1 : Int) < t.length
        · rw [if_pos c2]
          refine ⟨tt, tb, ⟨lt, lb, M, bt, bb, hM⟩, fun g ok => ?_⟩
          have ng := (ok.gcd.right.len tb ok.gcd.plain.trim nb).1
          have bg := dv_bits40 bt lt tt nt ok.gcd.plain ok.gcd.left
          have room : ∀ x : List Int, x.length ≤ 40 → M + (x.length + 1) * (M + 560 + 1) ≤ 100000000 := fun x hx => by
            have : (x.length + 1) * (M + 560 + 1) ≤ 41 * (M + 560 + 1) := Nat.mul_le_mul_right _ (by omega)
            omega
          refine ⟨tt, nt, ok.gcd.plain, ng, ok.gcd.left, by omega, ⟨M, M + 560, bt, bg, room t lt⟩, fun t1 tt1 et => ?_⟩
          refine ⟨tb, nb, ok.gcd.plain, ng, ok.gcd.right, by omega, ⟨M, M + 560, bb, bg, room b lb⟩, fun b1 tb1 eb => ?_⟩
          have l1 : t1.length ≤ t.length := ((dv_of_fac et).len tt tt1 nt).2
          have l2 : b1.length ≤ b.length := ((dv_of_fac eb).len tb tb1 nb).2
          exact quotient_3 nt tb nb ok.gcd tt1 tb1 et eb (by omega) (by omega) h
        · rw [if_neg c2]
          exact const (.inl (by omega)) _ _
      · rw [if_neg c1]
        exact const (.inr (by omega)) _ _
end DL
end L2

/-! SPh: sums and products of quotients: what is promised. -/
namespace L2
namespace DL
open PySem PySem.Spec PyProof PyProof.Rows
/-- the quotient u over v -/
abbrev QT (u v : List Int) : D := .tup [PT u, PT v]
theorem qt_inj {u v u' v' : List Int} (h : QT u v = QT u' v') : u = u' ∧ v = v' := by
  have h1 : [PT u, PT v] = [PT u', PT v'] := by injection h
  rw [List.cons.injEq, List.cons.injEq] at h1
  exact ⟨pt_inj h1.1, pt_inj h1.2.1⟩
theorem FormOk.more {t b u v t2 b2 z : List Int} (h : FormOk t b u v) (e1 : ∀ s, ev t2 s = ev t s * ev z s) (e2 : ∀ s, ev b2 s = ev b s * ev z s) : FormOk t2 b2 u v := by
  obtain ⟨w, h1, h2⟩ := h.fac
  refine ⟨h.form, mulL w z, fun s => ?_, fun s => ?_⟩
  · rw [e1 s, h1 s, ev_mulL]; grind
  · rw [e2 s, h2 s, ev_mulL]; grind
/-- two ways to one form -/
theorem form_same {t b u v t' b' u' v' : List Int} (x : FormOk t b u v) (y : FormOk t' b' u' v') (nb : ∃ s, ev b s ≠ 0) (tb : Trim b) (tb' : Trim b') (nb' : b' ≠ []) (e : ∀ s, ev t s * ev b' s = ev t' s * ev b s) : u = u' ∧ v = v' := by
  obtain ⟨w, h1, h2⟩ := x.fac
  obtain ⟨w', h3, h4⟩ := y.fac
  have wz : cutI w ≠ [] := fun z => by
    obtain ⟨s, hs⟩ := nb
    exact hs (by rw [h2 s, ← ev_cutI w, z]; show _ * 0 = 0; rw [Int.mul_zero])
  have wz' : cutI w' ≠ [] := fun z => by
    obtain ⟨s, hs⟩ := ne_worth tb' nb'
    exact hs (by rw [h4 s, ← ev_cutI w', z]; show _ * 0 = 0; rw [Int.mul_zero])
  refine x.form.unique y.form fun s => ?_
  have key : ∀ s, (ev u s * ev v' s - ev u' s * ev v s) * (ev w s * ev w' s) = 0 := fun s => by
    have a0 := e s
    rw [h1 s, h2 s, h3 s, h4 s] at a0
    grind
  have pz : cutI (addL (mulL u v') (scaleL (-1) (mulL u' v))) = [] := by
    by_cases c : cutI (addL (mulL u v') (scaleL (-1) (mulL u' v))) = []
    · exact c
    · have n1 := pmul_ne (cutI_trim w) (cutI_trim w') wz wz'
      exact absurd (nil_of_ev (pmul_trim _ _) fun s => by
        rw [ev_pmul, ev_pmul, ev_cutI, ev_cutI, ev_cutI]
        unfold scaleL
        rw [ev_addL, ev_scale, ev_mulL, ev_mulL]
        have := key s
        grind) (pmul_ne (cutI_trim _) (pmul_trim (cutI w) (cutI w')) c n1)
  have h0 := ev_cutI (addL (mulL u v') (scaleL (-1) (mulL u' v))) s
  rw [pz] at h0
  unfold scaleL at h0
  rw [ev_addL, ev_scale, ev_mulL, ev_mulL, show ev [] s = 0 from rfl] at h0
  omega
/-- a form is its own form -/
theorem form_self {u v u' v' : List Int} (x : QForm u v) (y : FormOk u v u' v') : u = u' ∧ v = v' :=
  form_same ⟨x, [1], fun s => by show _ = _ * (1 + s * 0); grind, fun s => by show _ = _ * (1 + s * 0); grind⟩ y (ne_worth x.tb x.nb) x.tb x.tb x.nb fun s => rfl
theorem QForm.neg {u v : List Int} (x : QForm u v) : QForm (negL u) v := by
  have tn : Trim (negL u) := scaleL_trim (c := -1) (by decide) x.tt
  have dn : ∀ d, Dv d (negL u) → Dv d u := fun d ⟨k, q, hk, e⟩ => ⟨k, scaleL (-1) q, hk, fun s => by
    have := e s
    unfold negL at this
    rw [ev_scale] at this
    unfold scaleL
    rw [ev_scale]
    grind⟩
  refine ⟨tn, x.tb, x.pos, x.nb, fun d p q => x.prim d (dn d p) q, ?_⟩
  have n0 := contI_nonneg (negL u ++ v) 0 (Int.le_refl 0)
  have h : contI 0 (negL u ++ v) ∣ contI 0 (u ++ v) := dvd_contI _ 0 (Int.dvd_zero _) fun y hy => by
    rcases List.mem_append.mp hy with hy | hy
    · have : -1 * y ∈ negL u ++ v := List.mem_append_left _ (List.mem_map.mpr ⟨y, hy, rfl⟩)
      have := (contI_dvd (negL u ++ v) 0).2 _ this
      have e : -1 * y = -y := by omega
      rw [e] at this
      exact Int.dvd_neg.mp this
    · exact (contI_dvd (negL u ++ v) 0).2 _ (List.mem_append_right _ hy)
  rw [x.one] at h
  exact Int.eq_one_of_dvd_one n0 h
/-- two quotients to be reckoned with -/
structure Two (a b c d : List Int) : Prop where
  f1 : QForm a b
  f2 : QForm c d
  l1 : a.length + d.length ≤ 41
  l2 : c.length + b.length ≤ 41
  l3 : b.length + d.length ≤ 41
  l4 : a.length + c.length ≤ 41
  bits : ∃ N, Bits N a ∧ Bits N b ∧ Bits N c ∧ Bits N d ∧ N ≤ 9900
def sp_qplus (C : Cs) : DSp := fun ds S Q _ => ∃ a b c d, ds = [QT a b, QT c d] ∧ Two a b c d ∧ ∀ u v, FormOk (paddI (pmul a d) (pmul c b)) (pmul b d) u v → Q (QT u v) S
def sp_qminus (C : Cs) : DSp := fun ds S Q _ => ∃ a b c d, ds = [QT a b, QT c d] ∧ Two a b c d ∧ ∀ u v, FormOk (psubI (pmul a d) (pmul c b)) (pmul b d) u v → Q (QT u v) S
def sp_qtimes (C : Cs) : DSp := fun ds S Q _ => ∃ a b c d, ds = [QT a b, QT c d] ∧ Two a b c d ∧ ∀ u v, FormOk (pmul a c) (pmul b d) u v → Q (QT u v) S
def sp_qover (C : Cs) : DSp := fun ds S Q E => ∃ a b c d, ds = [QT a b, QT c d] ∧ Two a b c d ∧ (c = [] → E C.nn S) ∧ (c ≠ [] → ∀ u v, FormOk (pmul a d) (pmul b c) u v → Q (QT u v) S)
def sp_qless : DSp := fun ds S Q _ => ∃ a b, ds = [QT a b] ∧ a.length ≤ 1000 ∧ Q (QT (negL a) b) S
end DL
end L2

namespace L2
namespace DL
open PySem PySem.Spec PyProof PyProof.Rows
local macro_rules | `(tactic| walk_at "dl") => `(tactic| simp only [sSeq, sSet, sIf, sRet, sPar, sNext, sDrop, sAsg, sRaise, eBin, eUn, eVar, eC, eB, eM, eM0, eTup, eLst, eCall, eAndV, eOrV, eNotV, eIf, aCons, aNil, tVal, tAndD, tOrD, tNotD, cBl, dName, dSub, dTup, dLst, dCons, dNil,
  onI_ii, onIC_ii, oAdd_ii, oAdd_tt, oIadd_ii, oMul_ii, oNeg_i, oEq_ii, oNe_ii, oIx_t, oIx_v, oIx_r, oLen_t, oLen_v, oLen_r, oAbs_i, o2I_ii, oInt_i, oInt_b, oTuple_t, oTuple_r, isi_int, isi_bool, isi_tup, oSet_r, oAppend_r, isL_r, iLstD_r, lstAt_sup, rdAt_sup, ix0, ix1, ix2, ix3, sFor, iRange1, iRange2,
  call_divisor, call_number, call_draw, call_whole, call_isWhole, call_isNumber, call_low, call_told, call_lover, call_right,
  call_content, call_parted, call_plain, call_isPoly, call_lpoly, oEq_pp, oNe_pp, oEq_p0, oNe_p0, iTupD, eLc, oMul_t, eSl, pNone, pSome, cSl, sAug, eLstRg1, tYesD, sPar3, call_figAt, call_pplus, call_pminus, call_scaled, call_raised, call_lsum, call_lproduct, call_ptimes, call_head, call_restBy, call_longdiv, call_lleft, call_common, call_lcommon, call_pslope, call_lslope, call_worth, call_lworth, call_lnumber, oNe_qq, iEnumTup, iRevTup, iRange2, call_ldivided, call_lform, call_lquotient, call_qworth, call_quotient, call_wcommon,
  bodyEnds, bodyEX, List.set_cons_zero, List.set_cons_succ, List.getElem?_cons_zero, List.getElem?_cons_succ, decide_eq_true_eq, Bool.not_eq_true', decide_eq_false_iff_not, List.nil_append, List.append_nil, List.cons_append, Bool.false_eq_true, if_false, if_true, true_and, and_true])
/-- q_plus: 0 one, 1 other, 2 top -/
def t_q_plus (C : Cs) : DS :=
  (sSeq (sIf (tVal (eBin oEq (eBin oIx (eVar 0) (eC (.int 1))) (eBin oIx (eVar 1) (eC (.int 1))))) (sRet (eCall (sp_quotient C) [] (aCons (eCall sp_pplus [] (aCons (eBin oIx (eVar 0) (eC (.int 0))) (aCons (eBin oIx (eVar 1) (eC (.int 0))) aNil))) (aCons (eBin oIx (eVar 0) (eC (.int 1))) aNil)))) sNext)
  (sSeq (sSet 2 (eCall sp_pplus [] (aCons (eCall sp_ptimes [] (aCons (eBin oIx (eVar 0) (eC (.int 0))) (aCons (eBin oIx (eVar 1) (eC (.int 1))) aNil))) (aCons (eCall sp_ptimes [] (aCons (eBin oIx (eVar 1) (eC (.int 0))) (aCons (eBin oIx (eVar 0) (eC (.int 1))) aNil))) aNil))))
  (sRet (eCall (sp_quotient C) [] (aCons (eVar 2) (aCons (eCall sp_ptimes [] (aCons (eBin oIx (eVar 0) (eC (.int 1))) (aCons (eBin oIx (eVar 1) (eC (.int 1))) aNil))) aNil))))))
/-- q_less: 0 one, 1 figure -/
def t_q_less : DS :=
  (sRet (eTup (aCons (eB oTuple (aCons (eLc (iTupD (eBin oIx (eVar 0) (eC (.int 0)))) (dName 1) tYesD (eUn oNeg (eVar 1)) [1]) aNil)) (aCons (eBin oIx (eVar 0) (eC (.int 1))) aNil))))
/-- q_minus: 0 one, 1 other -/
def t_q_minus (C : Cs) : DS :=
  (sRet (eCall (sp_qplus C) [] (aCons (eVar 0) (aCons (eCall sp_qless [] (aCons (eVar 1) aNil)) aNil))))
/-- q_times: 0 one, 1 other -/
def t_q_times (C : Cs) : DS :=
  (sRet (eCall (sp_quotient C) [] (aCons (eCall sp_ptimes [] (aCons (eBin oIx (eVar 0) (eC (.int 0))) (aCons (eBin oIx (eVar 1) (eC (.int 0))) aNil))) (aCons (eCall sp_ptimes [] (aCons (eBin oIx (eVar 0) (eC (.int 1))) (aCons (eBin oIx (eVar 1) (eC (.int 1))) aNil))) aNil))))
/-- q_over: 0 one, 1 other -/
def t_q_over (C : Cs) : DS :=
  (sRet (eCall (sp_quotient C) [] (aCons (eCall sp_ptimes [] (aCons (eBin oIx (eVar 0) (eC (.int 0))) (aCons (eBin oIx (eVar 1) (eC (.int 1))) aNil))) (aCons (eCall sp_ptimes [] (aCons (eBin oIx (eVar 0) (eC (.int 1))) (aCons (eBin oIx (eVar 1) (eC (.int 0))) aNil))) aNil))))
theorem Two.len {a b c d : List Int} {x y : List Int} (h : x.length + y.length ≤ 41) (tx : Trim x) (ty : Trim y) : (pmul x y).length ≤ 40 := by
  by_cases zx : x = []
  · subst zx
    have : pmul [] y = [] := nil_of_ev (pmul_trim _ _) fun t => by rw [ev_pmul]; show 0 * _ = 0; rw [Int.zero_mul]
    rw [this]; exact Nat.zero_le _
  · by_cases zy : y = []
    · subst zy
      have : pmul x [] = [] := nil_of_ev (pmul_trim _ _) fun t => by rw [ev_pmul]; show _ * 0 = 0; rw [Int.mul_zero]
      rw [this]; exact Nat.zero_le _
    · rw [pmul_len tx ty zx zy]; omega
theorem sem_q_less : ∀ ds S Q E, sp_qless ds S Q E → t_q_less (bodyEX E) (bodyEnds Q) (dstart ["one", "figure"] ds) S := by
  rintro ds S Q E ⟨a, b, rfl, la, h⟩
  show t_q_less (bodyEX E) (bodyEnds Q) [some (QT a b), none] S
  unfold t_q_less
  walk_at "dl"
  intro p np
  refine lc_ints (f := fun x => -1 * x) a [] (fun _ => trivial) (by simp; omega) (fun x hx acc' Q' q => ?_) ?_
  · simp only [dwipe]
    walk_at "dl"
    rw [Int.neg_mul, Int.one_mul] at q
    exact q
  · rw [rdAt_sup]
    exact ⟨sz2, S, Sub.new np, h⟩
theorem two_bits {x y : List Int} {N : Nat} (bx : Bits N x) (by' : Bits N y) (h : x.length + y.length ≤ 41) : Bits (2 * N + 41) (pmul x y) := ((bits_mulL bx by').mono (by omega)).cut
theorem sem_q_times {C : Cs} : ∀ ds S Q E, sp_qtimes C ds S Q E → t_q_times C (bodyEX E) (bodyEnds Q) (dstart ["one", "other"] ds) S := by
  rintro ds S Q E ⟨a, b, c, d, rfl, w, h⟩
  show t_q_times C (bodyEX E) (bodyEnds Q) [some (QT a b), some (QT c d)] S
  obtain ⟨N, ba, bb, bc, bd, hN⟩ := w.bits
  have h1 := w.l1
  have h2 := w.l2
  have h3 := w.l3
  have h4 := w.l4
  have hN2 : N + N ≤ 100000000 := by omega
  have m : ∀ {x y : List Int}, Bits N x → Bits N y → ∀ u ∈ x, ∀ v ∈ y, IntMulOk u v := fun bx by' u hu v hv => mul_ok (bx.mem hu) (by'.mem hv) hN2
  have lx : (pmul a c).length ≤ 40 := Two.len (a := a) (b := b) (c := c) (d := d) h4 w.f1.tt w.f2.tt
  have ly : (pmul b d).length ≤ 40 := Two.len (a := a) (b := b) (c := c) (d := d) h3 w.f1.tb w.f2.tb
  have hb : Small (pmul a c) (pmul b d) := ⟨lx, ly, 2 * N + 41, two_bits ba bc h4, two_bits bb bd h3, by omega⟩
  unfold t_q_times
  walk_at "dl"
  refine ⟨by omega, by omega, w.f1.tt, w.f2.tt, m ba bc, by omega, by omega, w.f1.tb, w.f2.tb, m bb bd, fun z => absurd z (pmul_ne w.f1.tb w.f2.tb w.f1.nb w.f2.nb), fun _ => ⟨pmul_trim _ _, pmul_trim _ _, hb, fun u v ok => ⟨S, Sub.refl S, h u v ok⟩⟩⟩
theorem sem_q_over {C : Cs} : ∀ ds S Q E, sp_qover C ds S Q E → t_q_over C (bodyEX E) (bodyEnds Q) (dstart ["one", "other"] ds) S := by
  rintro ds S Q E ⟨a, b, c, d, rfl, w, h0, h⟩
  show t_q_over C (bodyEX E) (bodyEnds Q) [some (QT a b), some (QT c d)] S
  obtain ⟨N, ba, bb, bc, bd, hN⟩ := w.bits
  have h1 := w.l1
  have h2 := w.l2
  have h3 := w.l3
  have h4 := w.l4
  have h5 : b.length + c.length ≤ 41 := by omega
  have hN2 : N + N ≤ 100000000 := by omega
  have m : ∀ {x y : List Int}, Bits N x → Bits N y → ∀ u ∈ x, ∀ v ∈ y, IntMulOk u v := fun bx by' u hu v hv => mul_ok (bx.mem hu) (by'.mem hv) hN2
  have lx : (pmul a d).length ≤ 40 := Two.len (a := a) (b := b) (c := c) (d := d) h1 w.f1.tt w.f2.tb
  have ly : (pmul b c).length ≤ 40 := Two.len (a := a) (b := b) (c := c) (d := d) h5 w.f1.tb w.f2.tt
  have hb : Small (pmul a d) (pmul b c) := ⟨lx, ly, 2 * N + 41, two_bits ba bd h1, two_bits bb bc h5, by omega⟩
  unfold t_q_over
  walk_at "dl"
  refine ⟨by omega, by omega, w.f1.tt, w.f2.tb, m ba bd, by omega, by omega, w.f1.tb, w.f2.tt, m bb bc, fun z => ⟨S, Sub.refl S, h0 ?_⟩, fun z => ⟨pmul_trim _ _, pmul_trim _ _, hb, fun u v ok => ⟨S, Sub.refl S, h ?_ u v ok⟩⟩⟩
  · by_cases y : c = []
    · exact y
    · exact absurd z (pmul_ne w.f1.tb w.f2.tt w.f1.nb y)
  · rintro rfl
    exact z (nil_of_ev (pmul_trim _ _) fun t => by rw [ev_pmul]; show _ * 0 = 0; rw [Int.mul_zero])
theorem sem_q_plus {C : Cs} : ∀ ds S Q E, sp_qplus C ds S Q E → t_q_plus C (bodyEX E) (bodyEnds Q) (dstart ["one", "other", "top"] ds) S := by
  rintro ds S Q E ⟨a, b, c, d, rfl, w, h⟩
  show t_q_plus C (bodyEX E) (bodyEnds Q) [some (QT a b), some (QT c d), none] S
  obtain ⟨N, ba, bb, bc, bd, hN⟩ := w.bits
  have h1 := w.l1
  have h2 := w.l2
  have h3 := w.l3
  have h4 := w.l4
  have hN2 : N + N ≤ 100000000 := by omega
  have m : ∀ {x y : List Int}, Bits N x → Bits N y → ∀ u ∈ x, ∀ v ∈ y, IntMulOk u v := fun bx by' u hu v hv => mul_ok (bx.mem hu) (by'.mem hv) hN2
  have lb0 := List.length_pos_iff.mpr w.f1.nb
  have ld0 := List.length_pos_iff.mpr w.f2.nb
  have lx : (pmul a d).length ≤ 40 := Two.len (a := a) (b := b) (c := c) (d := d) h1 w.f1.tt w.f2.tb
  have ly : (pmul c b).length ≤ 40 := Two.len (a := a) (b := b) (c := c) (d := d) h2 w.f2.tt w.f1.tb
  have lz : (pmul b d).length ≤ 40 := Two.len (a := a) (b := b) (c := c) (d := d) h3 w.f1.tb w.f2.tb
  have lp := paddI_len (pmul a d) (pmul c b)
  have lq := paddI_len a c
  unfold t_q_plus
  walk_at "dl"
  have bs : Bits (2 * N + 42) (paddI (pmul a d) (pmul c b)) := ((two_bits ba bd h1).addL (two_bits bc bb h2) (by omega)).cut
  have hb : Small (paddI (pmul a d) (pmul c b)) (pmul b d) := ⟨by omega, lz, 2 * N + 42, bs, (two_bits bb bd h3).mono (by omega), by omega⟩
  have hb2 : Small (paddI a c) b := ⟨by omega, by omega, 2 * N + 42, (ba.addL bc (Nat.le_refl (N + 1))).cut.mono (by omega), bb.mono (by omega), by omega⟩
  by_cases e : b = d
  · rw [if_pos e]
    refine ⟨by omega, by omega, fun z => absurd z w.f1.nb, fun _ => ⟨cutI_trim _, w.f1.tb, hb2, fun u v ok => ⟨S, Sub.refl S, h u v (ok.more (z := b) (fun s => ?_) (fun s => ?_))⟩⟩⟩
    · rw [ev_paddI, ev_paddI, ev_pmul, ev_pmul, ← e]; grind
    · rw [ev_pmul, ← e]
  · rw [if_neg e]
    exact ⟨by omega, by omega, w.f1.tt, w.f2.tb, m ba bd, by omega, by omega, w.f2.tt, w.f1.tb, m bc bb, by omega, by omega, by omega, by omega, w.f1.tb, w.f2.tb, m bb bd, fun z => absurd z (pmul_ne w.f1.tb w.f2.tb w.f1.nb w.f2.nb), fun _ => ⟨cutI_trim _, pmul_trim _ _, hb, fun u v ok => ⟨S, Sub.refl S, h u v ok⟩⟩⟩
theorem FormOk.same {t b u v t2 : List Int} (h : FormOk t b u v) (e : ∀ s, ev t2 s = ev t s) : FormOk t2 b u v := by
  obtain ⟨w, h1, h2⟩ := h.fac
  exact ⟨h.form, w, fun s => by rw [e s, h1 s], h2⟩
theorem Two.neg {a b c d : List Int} (w : Two a b c d) : Two a b (negL c) d := by
  obtain ⟨N, ba, bb, bc, bd, hN⟩ := w.bits
  have l : (negL c).length = c.length := List.length_map _
  exact ⟨w.f1, w.f2.neg, w.l1, by rw [l]; exact w.l2, w.l3, by rw [l]; exact w.l4, N, ba, bb, bc.neg, bd, hN⟩
theorem sem_q_minus {C : Cs} : ∀ ds S Q E, sp_qminus C ds S Q E → t_q_minus C (bodyEX E) (bodyEnds Q) (dstart ["one", "other"] ds) S := by
  rintro ds S Q E ⟨a, b, c, d, rfl, w, h⟩
  show t_q_minus C (bodyEX E) (bodyEnds Q) [some (QT a b), some (QT c d)] S
  unfold t_q_minus
  simp only [sRet, eCall, aCons, aNil, eVar, List.getElem?_cons_zero, List.getElem?_cons_succ, List.append_nil]
  have h2 := w.l2
  refine ⟨c, d, rfl, by omega, a, b, negL c, d, rfl, w.neg, fun u v ok => ⟨S, Sub.refl S, h u v (ok.same fun s => ?_)⟩⟩
  rw [ev_psubI, ev_paddI, ev_pmul, ev_pmul, ev_pmul]
  unfold negL
  rw [ev_scale]
  grind
end DL
end L2

/-! SPi: slopes of quotients: what is promised. -/
namespace L2
namespace DL
open PySem PySem.Spec PyProof PyProof.Rows
/-- the top of a slope -/
def slopeT (a b : List Int) : List Int := psubI (pmul (slopeI a) b) (pmul a (slopeI b))
theorem ev_slopeT (a b : List Int) (t : Int) : ev (slopeT a b) t = dv a t * ev b t - ev a t * dv b t := by
  unfold slopeT
  rw [ev_psubI, ev_pmul, ev_pmul, ev_slopeI, ev_slopeI]
theorem Bits.slope {n : Nat} {a : List Int} (h : Bits n a) (la : a.length ≤ 60) : Bits (n + 6) (slopeI a) := fun k => by
  rw [co_slopeI]
  by_cases c : k + 1 < a.length
  · have h1 := h (k + 1)
    rw [Int.natAbs_mul, Nat.pow_add, Nat.mul_comm (2 ^ n)]
    have h2 : ((k : Int) + 1).natAbs < 2 ^ 6 := by omega
    exact Nat.mul_lt_mul'' h2 h1
  · rw [co_ge (by omega), Int.mul_zero]
    exact two_pos _
theorem pmul_len_le (a b : List Int) : (pmul a b).length ≤ a.length + b.length - 1 := len_of_co (pmul_trim _ _) fun k hk => by unfold pmul; rw [co_cutI]; exact mulL_bound _ _ k hk
/-- a quotient that is not too great -/
structure Qn (a b : List Int) : Prop where
  f : QForm a b
  la : a.length + b.length ≤ 42
  lb : b.length ≤ 20
  bits : ∃ N, Bits N a ∧ Bits N b ∧ N ≤ 9900
theorem form_nil {b u v : List Int} (h : FormOk [] b u v) (tb : Trim b) (nb : b ≠ []) : u = [] ∧ v = [1] :=
  form_same h (form_zero b) (ne_worth tb nb) tb tb nb fun s => rfl
theorem slope_nil {a b : List Int} (la : a.length < 2) (lb : b.length = 1) : slopeT a b = [] := by
  have sa : slopeI a = [] := List.length_eq_zero_iff.mp (by rw [slopeI_len]; omega)
  have sb : slopeI b = [] := List.length_eq_zero_iff.mp (by rw [slopeI_len]; omega)
  refine nil_of_ev (cutI_trim _) fun t => ?_
  rw [ev_slopeT, ← ev_slopeI, ← ev_slopeI, sa, sb]
  show 0 * _ - _ * 0 = (0 : Int)
  rw [Int.zero_mul, Int.mul_zero]
  rfl
/-- the slope is 0 of numbers alone -/
theorem slope_zero {a b : List Int} (f : QForm a b) (h : slopeT a b = []) : a.length < 2 ∧ b.length = 1 := by
  have e : ∀ t, dv a t * ev b t = ev a t * dv b t := fun t => by
    have := ev_slopeT a b t
    rw [h] at this
    have h0 : ev [] t = 0 := rfl
    omega
  have lb := List.length_pos_iff.mpr f.nb
  have d1 : Dv b (slopeI b) := Dv.coprime (a := a) f.tb f.tt (fun d h1 h2 => f.prim d h2 h1) ⟨1, slopeI a, by decide, fun t => by rw [ev_mulL, ev_slopeI, ev_slopeI, Int.one_mul, e t]⟩
  have sb := d1.short (slopeI_trim f.tb) f.tb (by rw [slopeI_len]; omega)
  have hb : b.length = 1 := by
    have := slopeI_len b
    rw [sb] at this
    simp only [List.length_nil] at this
    omega
  refine ⟨?_, hb⟩
  have sa : slopeI a = [] := by
    by_cases c : slopeI a = []
    · exact c
    · exact absurd (nil_of_ev (pmul_trim _ _) fun t => by
        rw [ev_pmul, ev_slopeI, e t, ← ev_slopeI b, sb]
        show _ * 0 = (0 : Int)
        rw [Int.mul_zero]) (pmul_ne (slopeI_trim f.tt) f.tb c f.nb)
  have := slopeI_len a
  rw [sa] at this
  simp only [List.length_nil] at this
  omega
theorem slope_of_numbers {a b u v : List Int} (f : QForm a b) (ok : FormOk (slopeT a b) (pmul b b) u v) : (u = [] ∧ v = [1]) ↔ (a.length < 2 ∧ b.length = 1) := by
  have nb := pmul_ne f.tb f.tb f.nb f.nb
  constructor
  · rintro ⟨rfl, rfl⟩
    refine slope_zero f (nil_of_ev (cutI_trim _) fun t => ?_)
    obtain ⟨w, h1, _⟩ := ok.fac
    rw [h1 t]
    show 0 * _ = (0 : Int)
    rw [Int.zero_mul]
  · rintro ⟨la, lb⟩
    rw [slope_nil la lb] at ok
    exact form_nil ok (pmul_trim _ _) nb
def sp_qslope (C : Cs) : DSp := fun ds S Q _ => ∃ a b, ds = [QT a b] ∧ Qn a b ∧ ∀ u v, FormOk (slopeT a b) (pmul b b) u v → Q (QT u v) S
def sp_lqslope : DSp := fun ds S Q _ => ∃ a b, ds = [QT a b] ∧ Qn a b ∧ ∀ u v, FormOk (slopeT a b) (pmul b b) u v → Q (QT u v) S
theorem call_qslope {C : Cs} {S : Sto} {Q : DK} {E : Addr → Sto → Prop} {a b : List Int} : sp_qslope C [QT a b] S Q E = (Qn a b ∧ ∀ u v, FormOk (slopeT a b) (pmul b b) u v → Q (QT u v) S) :=
  propext ⟨fun ⟨_, _, e, h⟩ => by rw [List.cons.injEq] at e; obtain ⟨rfl, rfl⟩ := qt_inj e.1; exact h, fun h => ⟨_, _, rfl, h⟩⟩
theorem call_lqslope {S : Sto} {Q : DK} {E : Addr → Sto → Prop} {a b : List Int} : sp_lqslope [QT a b] S Q E = (Qn a b ∧ ∀ u v, FormOk (slopeT a b) (pmul b b) u v → Q (QT u v) S) :=
  propext ⟨fun ⟨_, _, e, h⟩ => by rw [List.cons.injEq] at e; obtain ⟨rfl, rfl⟩ := qt_inj e.1; exact h, fun h => ⟨_, _, rfl, h⟩⟩
theorem Qn.ok {a b : List Int} (q : Qn a b) : Small (slopeT a b) (pmul b b) ∧ (∀ x ∈ slopeI a, ∀ y ∈ b, IntMulOk x y) ∧ (∀ x ∈ a, ∀ y ∈ slopeI b, IntMulOk x y) ∧ (∀ x ∈ b, ∀ y ∈ b, IntMulOk x y) ∧ Small (slopeI a) b := by
  obtain ⟨N, ba, bb, hN⟩ := q.bits
  have la := q.la
  have lb := q.lb
  have lb0 := List.length_pos_iff.mpr q.f.nb
  have sa := slopeI_len a
  have sb := slopeI_len b
  have ca := ba.slope (by omega)
  have cb := bb.slope (by omega)
  have m1 : ∀ {x y : List Int} {n m : Nat}, Bits n x → Bits m y → n ≤ 10000 → m ≤ 10000 → ∀ u ∈ x, ∀ v ∈ y, IntMulOk u v := fun bx by' hn hm u hu v hv => mul_ok (bx.mem hu) (by'.mem hv) (by omega)
  have l1 := cutI_len (mulL (slopeI a) b)
  have l2 := pmul_len_le (slopeI a) b
  have l3 := pmul_len_le a (slopeI b)
  have l4 := pmul_len_le b b
  have l5 := psubI_len (pmul (slopeI a) b) (pmul a (slopeI b))
  have b1 : Bits (2 * N + 60) (pmul (slopeI a) b) := ((bits_mulL ca bb).mono (by omega)).cut
  have b2 : Bits (2 * N + 60) (pmul a (slopeI b)) := ((bits_mulL ba cb).mono (by omega)).cut
  have b3 : Bits (2 * N + 60) (pmul b b) := ((bits_mulL bb bb).mono (by omega)).cut
  refine ⟨⟨by unfold slopeT; omega, by omega, 2 * N + 61, (b1.addL b2.neg (Nat.le_refl _)).cut, b3.mono (by omega), by omega⟩, m1 ca bb (by omega) (by omega), m1 ba cb (by omega) (by omega), m1 bb bb (by omega) (by omega), ⟨by omega, by omega, N + 6, ca, bb.mono (by omega), by omega⟩⟩
end DL
end L2

namespace L2
namespace DL
open PySem PySem.Spec PyProof PyProof.Rows
local macro_rules | `(tactic| walk_at "dl") => `(tactic| simp only [sSeq, sSet, sIf, sRet, sPar, sNext, sDrop, sAsg, sRaise, eBin, eUn, eVar, eC, eB, eM, eM0, eTup, eLst, eCall, eAndV, eOrV, eNotV, eIf, aCons, aNil, tVal, tAndD, tOrD, tNotD, cBl, dName, dSub, dTup, dLst, dCons, dNil,
  onI_ii, onIC_ii, oAdd_ii, oAdd_tt, oIadd_ii, oMul_ii, oNeg_i, oEq_ii, oNe_ii, oIx_t, oIx_v, oIx_r, oLen_t, oLen_v, oLen_r, oAbs_i, o2I_ii, oInt_i, oInt_b, oTuple_t, oTuple_r, isi_int, isi_bool, isi_tup, oSet_r, oAppend_r, isL_r, iLstD_r, lstAt_sup, rdAt_sup, ix0, ix1, ix2, ix3, sFor, iRange1, iRange2,
  call_divisor, call_number, call_draw, call_whole, call_isWhole, call_isNumber, call_low, call_told, call_lover, call_right,
  call_content, call_parted, call_plain, call_isPoly, call_lpoly, oEq_pp, oNe_pp, oEq_p0, oNe_p0, iTupD, eLc, oMul_t, eSl, pNone, pSome, cSl, sAug, eLstRg1, tYesD, sPar3, call_figAt, call_pplus, call_pminus, call_scaled, call_raised, call_lsum, call_lproduct, call_ptimes, call_head, call_restBy, call_longdiv, call_lleft, call_common, call_lcommon, call_pslope, call_lslope, call_worth, call_lworth, call_lnumber, oNe_qq, iEnumTup, iRevTup, iRange2, call_ldivided, call_lform, call_lquotient, call_qworth, call_quotient, call_wcommon, call_qslope, call_lqslope,
  bodyEnds, bodyEX, List.set_cons_zero, List.set_cons_succ, List.getElem?_cons_zero, List.getElem?_cons_succ, decide_eq_true_eq, Bool.not_eq_true', decide_eq_false_iff_not, List.nil_append, List.append_nil, List.cons_append, Bool.false_eq_true, if_false, if_true, true_and, and_true])
/-- q_slope: 0 one, 1 top, 2 bottom, 3 lifted -/
def t_q_slope (C : Cs) : DS :=
  (sSeq (sAsg (eVar 0) (dTup 2 (dCons (dName 1) (dCons (dName 2) dNil))))
  (sSeq (sIf (tVal (eBin oEq (eB oLen (aCons (eVar 2) aNil)) (eC (.int 1)))) (sRet (eCall (sp_quotient C) [] (aCons (eCall sp_pslope [] (aCons (eVar 1) aNil)) (aCons (eVar 2) aNil)))) sNext)
  (sSeq (sSet 3 (eCall sp_pminus [] (aCons (eCall sp_ptimes [] (aCons (eCall sp_pslope [] (aCons (eVar 1) aNil)) (aCons (eVar 2) aNil))) (aCons (eCall sp_ptimes [] (aCons (eVar 1) (aCons (eCall sp_pslope [] (aCons (eVar 2) aNil)) aNil))) aNil))))
  (sRet (eCall (sp_quotient C) [] (aCons (eVar 3) (aCons (eCall sp_ptimes [] (aCons (eVar 2) (aCons (eVar 2) aNil))) aNil)))))))
/-- _law_q_slope: 0 _law_one, 1 _law_carried -/
def t__law_q_slope : DS :=
  (sSeq (sSet 1 (eCall sp_lproduct [] (aCons (eCall sp_lslope [] (aCons (eBin oIx (eVar 0) (eC (.int 0))) aNil)) (aCons (eBin oIx (eVar 0) (eC (.int 1))) aNil))))
  (sSeq (sSet 1 (eCall sp_lsum [] (aCons (eVar 1) (aCons (eCall sp_lproduct [] (aCons (eBin oIx (eVar 0) (eC (.int 0))) (aCons (eCall sp_lslope [] (aCons (eBin oIx (eVar 0) (eC (.int 1))) aNil)) aNil))) (aCons (eUn oNeg (eC (.int 1))) aNil)))))
  (sRet (eCall sp_lform [] (aCons (eVar 1) (aCons (eCall sp_lproduct [] (aCons (eBin oIx (eVar 0) (eC (.int 1))) (aCons (eBin oIx (eVar 0) (eC (.int 1))) aNil))) aNil))))))
theorem slope_const {a b : List Int} (hb : b.length = 1) (t : Int) : ev (slopeT a b) t = ev (slopeI a) t * ev b t := by
  obtain ⟨c, rfl⟩ := List.length_eq_one_iff.mp hb
  rw [ev_slopeT, ev_slopeI]
  have : dv [c] t = 0 := by rw [← ev_slopeI]; rfl
  rw [this]
  omega
theorem sem_q_slope {C : Cs} : ∀ ds S Q E, sp_qslope C ds S Q E → t_q_slope C (bodyEX E) (bodyEnds Q) (dstart ["one", "top", "bottom", "lifted"] ds) S := by
  rintro ds S Q E ⟨a, b, rfl, q, h⟩
  show t_q_slope C (bodyEX E) (bodyEnds Q) [some (QT a b), none, none, none] S
  obtain ⟨s1, m1, m2, m3, s2⟩ := q.ok
  have la := q.la
  have lb := q.lb
  have sa := slopeI_len a
  have sb := slopeI_len b
  have ta := slopeI_trim q.f.tt
  have tb := slopeI_trim q.f.tb
  unfold t_q_slope
  walk_at "dl"
  simp only [List.length_map]
  have z := q.f.nb
  have zz := pmul_ne q.f.tb q.f.tb z z
  have l1 : (pmul (slopeI a) b).length ≤ 10000 := Nat.le_trans (pmul_len_le _ _) (by omega)
  have l2 : (pmul a (slopeI b)).length ≤ 10000 := Nat.le_trans (pmul_len_le _ _) (by omega)
  refine ⟨rfl, ?_⟩
  by_cases c : (b.length : Int) = 1
  · rw [if_pos c]
    refine ⟨by omega, fun y => absurd y z, fun _ => ⟨ta, q.f.tb, s2, fun u v ok => ⟨S, Sub.refl S, h u v (ok.more (z := b) (fun s => ?_) fun s => ?_)⟩⟩⟩
    · exact slope_const (by omega) s
    · rw [ev_pmul]
  · rw [if_neg c]
    exact ⟨by omega, by omega, by omega, ta, q.f.tb, m1, by omega, by omega, by omega, q.f.tt, tb, m2, l1, l2, by omega, by omega, q.f.tb, q.f.tb, m3, fun y => absurd y zz, fun _ => ⟨cutI_trim _, pmul_trim _ _, s1, fun u v ok => ⟨S, Sub.refl S, h u v ok⟩⟩⟩
theorem sem__law_q_slope : ∀ ds S Q E, sp_lqslope ds S Q E → t__law_q_slope (bodyEX E) (bodyEnds Q) (dstart ["_law_one", "_law_carried"] ds) S := by
  rintro ds S Q E ⟨a, b, rfl, q, h⟩
  show t__law_q_slope (bodyEX E) (bodyEnds Q) [some (QT a b), none] S
  obtain ⟨s1, m1, m2, m3, s2⟩ := q.ok
  have la := q.la
  have lb := q.lb
  have sa := slopeI_len a
  have sb := slopeI_len b
  have ta := slopeI_trim q.f.tt
  have tb := slopeI_trim q.f.tb
  unfold t__law_q_slope
  walk_at "dl"
  have z := q.f.nb
  have zz := pmul_ne q.f.tb q.f.tb z z
  have l1 : (pmul (slopeI a) b).length ≤ 10000 := Nat.le_trans (pmul_len_le _ _) (by omega)
  have l2 : (pmul a (slopeI b)).length ≤ 10000 := Nat.le_trans (pmul_len_le _ _) (by omega)
  exact ⟨by omega, q.f.tt, by omega, by omega, m1, by omega, q.f.tb, by omega, by omega, m2, l1, l2, fun x hx => mulok_left (by decide) (by decide), by omega, by omega, m3, cutI_trim _, pmul_trim _ _, zz, s1, fun u v ok => ⟨S, Sub.refl S, h u v ok⟩⟩
end DL
end L2

/-! SQ: parts without squares: f over its common part with its slope has no squares, and what divides f divides it. Plain Lean. -/
namespace L2
namespace DL
open PySem PySem.Spec PyProof PyProof.Rows
theorem ev_one (t : Int) : ev [1] t = 1 := by show 1 + t * 0 = (1 : Int); omega
theorem ev_const (c t : Int) : ev [c] t = c := by show c + t * 0 = c; omega
/-- what stands as a factor on both sides -/
theorem ev_cancel {d a b : List Int} (td : Trim d) (nd : d ≠ []) (h : ∀ t, ev d t * ev a t = ev d t * ev b t) (t : Int) : ev a t = ev b t := by
  have z : psubI a b = [] := by
    by_cases c : psubI a b = []
    · exact c
    · exact absurd (nil_of_ev (pmul_trim d (psubI a b)) fun s => by
        rw [ev_pmul, ev_psubI]
        have := h s
        grind) (pmul_ne td (cutI_trim _) nd c)
  have := ev_psubI a b t
  rw [z] at this
  have h0 : ev [] t = 0 := rfl
  omega
/-- without a divisor but numbers and itself -/
structure Irr (d : List Int) : Prop where
  td : Trim d
  ld : 1 < d.length
  ir : ∀ e, Trim e → Dv e d → e.length = 1 ∨ Dv d e
theorem Irr.ne {d : List Int} (h : Irr d) : d ≠ [] := by have := h.ld; rintro rfl; simp at this
theorem Dv.cut {e d : List Int} : Dv e d ↔ Dv (cutI e) d := by
  constructor
  · rintro ⟨k, q, hk, h⟩; exact ⟨k, q, hk, fun t => by rw [ev_cutI]; exact h t⟩
  · rintro ⟨k, q, hk, h⟩; exact ⟨k, q, hk, fun t => by rw [← ev_cutI e]; exact h t⟩
theorem Dv.ne {e a : List Int} (h : Dv e a) (ta : Trim a) (na : a ≠ []) : e ≠ [] := by
  rintro rfl
  obtain ⟨k, q, hk, e⟩ := h
  refine na (nil_of_ev ta fun t => ?_)
  have := e t
  have h0 : ev [] t = 0 := rfl
  rw [h0, Int.mul_zero] at this
  rcases Int.mul_eq_zero.mp this with z | z
  · exact absurd z hk
  · exact z
/-- of one length: both ways -/
theorem same_len {e a : List Int} (te : Trim e) (ta : Trim a) (na : a ≠ []) (h : Dv e a) (hl : e.length = a.length) : Dv a e := by
  have ne := h.ne ta na
  obtain ⟨k, q, hk, eq⟩ := h
  have e1 : scaleL k a = pmul (cutI q) e := ev_ext (scaleL_trim hk ta) (pmul_trim _ _) fun t => by
    unfold scaleL
    rw [ev_scale, ev_pmul, ev_cutI, eq t]
  have nq : cutI q ≠ [] := by
    intro z
    have : scaleL k a = [] := by rw [e1, z]; exact nil_of_ev (pmul_trim _ _) fun t => by rw [ev_pmul]; show 0 * _ = 0; rw [Int.zero_mul]
    have := congrArg List.length this
    rw [scaleL_len] at this
    exact na (List.length_eq_zero_iff.mp this)
  have l1 := pmul_len (cutI_trim q) te nq ne
  rw [← e1, scaleL_len] at l1
  have l2 := List.length_pos_iff.mpr nq
  have l3 := List.length_pos_iff.mpr ne
  obtain ⟨c, hc⟩ := List.length_eq_one_iff.mp (show (cutI q).length = 1 by omega)
  have tc := cutI_trim q
  rw [hc] at tc
  refine ⟨c, [k], trim_one.mp tc, fun t => ?_⟩
  rw [ev_const, eq t, ← ev_cutI q, hc, ev_const]
theorem exists_irr : ∀ (n : Nat) (a : List Int), a.length ≤ n → Trim a → 1 < a.length → ∃ d, Irr d ∧ Dv d a
  | 0, a, hn, _, h => by omega
  | n + 1, a, hn, ta, h => by
    have na : a ≠ [] := by rintro rfl; simp at h
    by_cases c : ∀ e, Trim e → Dv e a → e.length = 1 ∨ Dv a e
    · exact ⟨a, ⟨ta, h, c⟩, Dv.refl a⟩
    · simp only [Classical.not_forall, not_or] at c
      obtain ⟨e, te, d, h1, h2⟩ := c
      obtain ⟨ne, le⟩ := d.len ta te na
      have := List.length_pos_iff.mpr ne
      have hl : e.length ≠ a.length := fun z => h2 (same_len te ta na d z)
      obtain ⟨p, ip, dp⟩ := exists_irr n e (by omega) te (by omega)
      exact ⟨p, ip, dp.trans d⟩
theorem Irr.apart {d a : List Int} (i : Irr d) (n : ¬Dv d a) : ∀ e, Dv e d → Dv e a → Dv e [1] := fun e h1 h2 => by
  rcases i.ir (cutI e) (cutI_trim e) (Dv.cut.mp h1) with z | z
  · have ne := (Dv.cut.mp h1).ne i.td i.ne
    obtain ⟨c, hc⟩ := List.length_eq_one_iff.mp z
    have tc := cutI_trim e
    rw [hc] at tc
    refine Dv.cut.mpr ⟨c, [1], trim_one.mp tc, fun t => ?_⟩
    rw [hc, ev_const, ev_const]
    omega
  · exact absurd (z.trans (Dv.cut.mp h2)) n
theorem Irr.prime {d a b : List Int} (i : Irr d) (ta : Trim a) (h : Dv d (mulL a b)) : Dv d a ∨ Dv d b := by
  by_cases c : Dv d a
  · exact .inl c
  · exact .inr (Dv.coprime i.td ta (i.apart c) h)
theorem Irr.slope {d : List Int} (i : Irr d) : ¬Dv d (slopeI d) := fun h => by
  have l := slopeI_len d
  have ld := i.ld
  have := h.short (slopeI_trim i.td) i.td (by omega)
  rw [this] at l
  simp at l
  omega
theorem Dv.left {d a b : List Int} (h : Dv d a) : Dv d (mulL a b) := by
  obtain ⟨k, q, hk, e⟩ := h
  exact ⟨k, mulL q b, hk, fun t => by rw [ev_mulL, ev_mulL]; have := e t; grind⟩
theorem Dv.right {d a b : List Int} (h : Dv d b) : Dv d (mulL a b) := by
  obtain ⟨k, q, hk, e⟩ := h
  exact ⟨k, mulL a q, hk, fun t => by rw [ev_mulL, ev_mulL]; have := e t; grind⟩
/-- so many times -/
theorem Dv.of_times {d a b : List Int} {k : Int} (hk : k ≠ 0) (e : ∀ t, k * ev a t = ev b t) (h : Dv d b) : Dv d a := by
  obtain ⟨c, q, hc, eq⟩ := h
  exact ⟨c * k, q, Int.mul_ne_zero hc hk, fun t => by rw [Int.mul_assoc, e t]; exact eq t⟩
theorem Dv.to_times {d a b : List Int} {k : Int} (e : ∀ t, k * ev a t = ev b t) (h : Dv d a) : Dv d b := by
  obtain ⟨c, q, hc, eq⟩ := h
  exact ⟨c, scaleL k q, hc, fun t => by unfold scaleL; rw [ev_scale, ← e t]; have := eq t; grind⟩
/-- d so often -/
def ppow (d : List Int) : Nat → List Int
  | 0 => [1]
  | n + 1 => pmul d (ppow d n)
theorem ev_ppow (d : List Int) (t : Int) : ∀ n, ev (ppow d n) t = ev d t ^ n
  | 0 => by rw [Int.pow_zero]; exact ev_one t
  | n + 1 => by unfold ppow; rw [ev_pmul, ev_ppow d t n, Int.pow_succ, Int.mul_comm]
theorem ppow_trim (d : List Int) : ∀ n, Trim (ppow d n)
  | 0 => trim_one.mpr (by decide)
  | n + 1 => pmul_trim _ _
theorem ppow_ne {d : List Int} (td : Trim d) (nd : d ≠ []) : ∀ n, ppow d n ≠ []
  | 0 => by simp [ppow]
  | n + 1 => pmul_ne td (ppow_trim d n) nd (ppow_ne td nd n)
theorem val_exists {d : List Int} (i : Irr d) : ∀ (n : Nat) (f : List Int), f.length ≤ n → Trim f → f ≠ [] → ∃ (m : Nat) (g : List Int) (k : Int), k ≠ 0 ∧ Trim g ∧ ¬Dv d g ∧ ∀ t, k * ev f t = ev (ppow d m) t * ev g t
  | 0, f, hn, _, nf => absurd (List.length_eq_zero_iff.mp (by omega)) nf
  | n + 1, f, hn, tf, nf => by
    by_cases c : Dv d f
    · obtain ⟨k, q, hk, e⟩ := c
      have e1 : scaleL k f = pmul (cutI q) d := ev_ext (scaleL_trim hk tf) (pmul_trim _ _) fun t => by
        unfold scaleL
        rw [ev_scale, ev_pmul, ev_cutI, e t]
      have nq : cutI q ≠ [] := by
        intro z
        have : scaleL k f = [] := by rw [e1, z]; exact nil_of_ev (pmul_trim _ _) fun t => by rw [ev_pmul]; show 0 * _ = 0; rw [Int.zero_mul]
        have := congrArg List.length this
        rw [scaleL_len] at this
        exact nf (List.length_eq_zero_iff.mp this)
      have l1 := pmul_len (cutI_trim q) i.td nq i.ne
      rw [← e1, scaleL_len] at l1
      have ld := i.ld
      obtain ⟨m, g, k', hk', tg, ng, eg⟩ := val_exists i n (cutI q) (by omega) (cutI_trim q) nq
      refine ⟨m + 1, g, k * k', Int.mul_ne_zero hk hk', tg, ng, fun t => ?_⟩
      have h1 := e t
      have h2 := eg t
      rw [ev_cutI] at h2
      have a2 : ev (ppow d (m + 1)) t = ev d t * ev (ppow d m) t := by show ev (pmul d (ppow d m)) t = _; rw [ev_pmul]
      rw [a2]
      grind
    · exact ⟨0, f, 1, by decide, tf, c, fun t => by show _ = ev [1] t * _; rw [ev_one]⟩
/-- a power of d divides a product, d not the one factor: then the other -/
theorem Irr.pow_other {d w : List Int} (i : Irr d) (tw : Trim w) (h : ¬Dv d w) : ∀ (n : Nat) (c : List Int), Dv (ppow d n) (mulL w c) → Dv (ppow d n) c
  | 0, c, _ => one_dv c
  | n + 1, c, x => by
    have x1 : Dv d (mulL w c) := by
      obtain ⟨k, q, hk, e⟩ := x
      exact ⟨k, mulL q (ppow d n), hk, fun t => by rw [e t, ev_mulL]; show _ * ev (pmul d (ppow d n)) t = _; rw [ev_pmul]; grind⟩
    rcases i.prime tw x1 with z | z
    · exact absurd z h
    · obtain ⟨k2, c1, hk2, e2⟩ := z
      obtain ⟨k, q, hk, e⟩ := x
      have key : ∀ s, ev d s * ev (scaleL k (mulL w c1)) s = ev d s * ev (mulL (scaleL k2 q) (ppow d n)) s := fun s => by
        have h1 := e s
        have h2 := e2 s
        have a2 : ev (ppow d (n + 1)) s = ev d s * ev (ppow d n) s := by show ev (pmul d (ppow d n)) s = _; rw [ev_pmul]
        unfold scaleL
        rw [ev_scale, ev_mulL, ev_mulL, ev_scale]
        rw [ev_mulL, a2] at h1
        grind
      have y : Dv (ppow d n) (mulL w c1) := ⟨k, scaleL k2 q, hk, fun t => by
        have z := ev_cancel i.td i.ne key t
        unfold scaleL at z ⊢
        rw [ev_scale, ev_mulL (List.map _ q)] at z
        exact z⟩
      have ih := i.pow_other tw h n c1 y
      obtain ⟨k3, q3, hk3, e3⟩ := ih
      exact ⟨k2 * k3, q3, Int.mul_ne_zero hk2 hk3, fun t => by
        have h1 := e2 t
        have h2 := e3 t
        have a2 : ev (ppow d (n + 1)) t = ev d t * ev (ppow d n) t := by show ev (pmul d (ppow d n)) t = _; rw [ev_pmul]
        rw [a2]
        grind⟩
/-- what the common part with the slope leaves -/
theorem radical {f c0 w : List Int} {s : Int} (tf : Trim f) (nf : f ≠ []) (tw : Trim w) (tc : Trim c0) (hg : IsGcd f (slopeI f) c0) (hs : s ≠ 0) (e : ∀ t, s * ev f t = ev w t * ev c0 t) {d : List Int} (i : Irr d) :
    (Dv d f → Dv d w) ∧ ¬Dv (pmul d d) w := by
  obtain ⟨m, g, k, hk, tg, ng, eg⟩ := val_exists i f.length f (Nat.le_refl _) tf nf
  have nc : c0 ≠ [] := hg.left.ne tf nf
  -- d^(m+1) does not divide f
  have top : ∀ q k' : _, (k' : Int) ≠ 0 → ¬∀ t, k' * ev f t = ev q t * (ev d t * ev (ppow d m) t) := fun q k' hk' z => by
    apply ng
    refine ⟨k', scaleL k q, hk', fun t => ?_⟩
    have := ev_cancel (d := ppow d m) (a := scaleL k' g) (b := mulL (scaleL k q) d) (ppow_trim d m) (ppow_ne i.td i.ne m) (fun s => by
      have h1 := z s
      have h2 := eg s
      unfold scaleL
      rw [ev_scale, ev_mulL, ev_scale]
      grind) t
    unfold scaleL at this ⊢
    rw [ev_scale, ev_mulL] at this
    exact this
  cases m with
  | zero =>
    have nd : ¬Dv d f := fun x => ng (Dv.to_times (k := k) (fun t => by rw [eg t]; show ev [1] t * _ = _; rw [ev_one, Int.one_mul]) x)
    refine ⟨fun x => absurd x nd, fun x => nd ?_⟩
    obtain ⟨k2, q, hk2, e2⟩ := x
    refine ⟨k2 * s, mulL (mulL q d) c0, Int.mul_ne_zero hk2 hs, fun t => ?_⟩
    have h1 := e t
    have h2 := e2 t
    rw [ev_pmul] at h2
    rw [ev_mulL, ev_mulL]
    grind
  | succ m =>
    have es : ∀ t, k * ev (slopeI f) t = ev (ppow d m) t * ev (addL (scaleL ((m : Int) + 1) (mulL (slopeI d) g)) (mulL d (slopeI g))) t := fun t => by
      have h1 : ∀ s, ev (scaleL k f) s = ev (mulL (ppow d (m + 1)) g) s := fun s => by unfold scaleL; rw [ev_scale, ev_mulL]; exact eg s
      have h2 := dv_congr h1 t
      have hp : ∀ n : Nat, dv (ppow d (n + 1)) t = ((n : Int) + 1) * dv d t * ev (ppow d n) t := fun n => by
        induction n with
        | zero =>
          have a1 : dv (ppow d 1) t = dv (mulL d [1]) t := dv_congr (fun s => by show ev (pmul d [1]) s = _; rw [ev_pmul, ev_mulL]) t
          rw [a1, dv_mulL, ev_one]
          have : dv [1] t = 0 := by rw [← ev_slopeI]; rfl
          rw [this]
          show _ = (0 + 1) * dv d t * ev [1] t
          rw [ev_one]
          omega
        | succ n ih =>
          have a1 : dv (ppow d (n + 1 + 1)) t = dv (mulL d (ppow d (n + 1))) t := dv_congr (fun s => by show ev (pmul d (ppow d (n + 1))) s = _; rw [ev_pmul, ev_mulL]) t
          rw [a1, dv_mulL, ih]
          have a2 : ev (ppow d (n + 1)) t = ev d t * ev (ppow d n) t := by show ev (pmul d (ppow d n)) t = _; rw [ev_pmul]
          rw [a2]
          have : ((n + 1 : Nat) : Int) = (n : Int) + 1 := by omega
          rw [this]
          grind
      unfold scaleL at h2
      rw [dv_scale, dv_mulL, hp m] at h2
      have a2 : ev (ppow d (m + 1)) t = ev d t * ev (ppow d m) t := by show ev (pmul d (ppow d m)) t = _; rw [ev_pmul]
      rw [a2] at h2
      unfold scaleL
      rw [ev_slopeI, ev_addL, ev_scale, ev_mulL, ev_mulL, ev_slopeI, ev_slopeI]
      grind
    -- d^(m+1) does not divide the slope
    have low : ¬Dv (ppow d (m + 1)) (slopeI f) := fun ⟨k2, q, hk2, e2⟩ => by
      have x : Dv d (addL (scaleL ((m : Int) + 1) (mulL (slopeI d) g)) (mulL d (slopeI g))) := ⟨k2, scaleL k q, hk2, fun t => by
        have := ev_cancel (d := ppow d m) (a := scaleL k2 (addL (scaleL ((m : Int) + 1) (mulL (slopeI d) g)) (mulL d (slopeI g)))) (b := mulL (scaleL k q) d) (ppow_trim d m) (ppow_ne i.td i.ne m) (fun s => by
          have h1 := e2 s
          have h2 := es s
          have a2 : ev (ppow d (m + 1)) s = ev d s * ev (ppow d m) s := by show ev (pmul d (ppow d m)) s = _; rw [ev_pmul]
          rw [a2] at h1
          have h3 : ev (scaleL k2 (addL (scaleL ((m : Int) + 1) (mulL (slopeI d) g)) (mulL d (slopeI g)))) s = k2 * ev (addL (scaleL ((m : Int) + 1) (mulL (slopeI d) g)) (mulL d (slopeI g))) s := ev_scale _ _ _
          have h4 : ev (scaleL k q) s = k * ev q s := ev_scale _ _ _
          rw [h3, ev_mulL, h4]
          grind) t
        have h3 : ev (scaleL k2 (addL (scaleL ((m : Int) + 1) (mulL (slopeI d) g)) (mulL d (slopeI g)))) t = k2 * ev (addL (scaleL ((m : Int) + 1) (mulL (slopeI d) g)) (mulL d (slopeI g))) t := ev_scale _ _ _
        rw [h3, ev_mulL] at this
        exact this⟩
      have y : Dv d (scaleL ((m : Int) + 1) (mulL (slopeI d) g)) := Dv.rest (b := mulL d (slopeI g)) (q := [1]) (k := 1) (fun t => by rw [ev_addL, ev_one]; omega) x (Dv.refl d).left
      have y2 : Dv d (mulL (slopeI d) g) := Dv.of_times (k := (m : Int) + 1) (by omega) (fun t => by unfold scaleL; rw [ev_scale]) y
      rcases i.prime (slopeI_trim i.td) y2 with z | z
      · exact i.slope z
      · exact ng z
    -- d^m divides the common part
    have pc : Dv (ppow d m) c0 := hg.most _ ⟨k, mulL d g, hk, fun t => by rw [eg t, ev_mulL]; show ev (pmul d (ppow d m)) t * _ = _; rw [ev_pmul]; grind⟩ ⟨k, _, hk, fun t => by rw [es t, Int.mul_comm]⟩
    refine ⟨fun _ => ?_, fun x => ?_⟩
    · by_cases c : Dv d w
      · exact c
      · exfalso
        refine low ((i.pow_other tw c (m + 1) c0 ⟨k, scaleL s g, hk, fun t => ?_⟩).trans hg.right)
        have h1 := e t
        have h2 := eg t
        unfold scaleL
        rw [ev_mulL, ev_scale, ← h1]
        grind
    · obtain ⟨k2, q2, hk2, e2⟩ := x
      obtain ⟨k3, q3, hk3, e3⟩ := pc
      refine top (mulL q2 q3) (s * k2 * k3) (Int.mul_ne_zero (Int.mul_ne_zero hs hk2) hk3) fun t => ?_
      have h1 := e t
      have h2 := e2 t
      have h3 := e3 t
      rw [ev_pmul] at h2
      have a2 : ev (ppow d (m + 1)) t = ev d t * ev (ppow d m) t := by show ev (pmul d (ppow d m)) t = _; rw [ev_pmul]
      rw [ev_mulL, a2]
      grind
/-- no common part with its slope -/
def SqFree (w : List Int) : Prop := ∀ e, Trim e → Dv e w → Dv e (slopeI w) → e.length = 1
theorem sqfree_of {w : List Int} (tw : Trim w) (nw : w ≠ []) (h : ∀ d, Irr d → ¬Dv (pmul d d) w) : SqFree w := fun e te h1 h2 => by
  have ne := h1.ne tw nw
  have := List.length_pos_iff.mpr ne
  by_cases c : e.length = 1
  · exact c
  · exfalso
    obtain ⟨d, i, x⟩ := exists_irr e.length e (Nat.le_refl _) te (by omega)
    obtain ⟨k, q, hk, eq⟩ := x.trans h1
    have s1 : ∀ t, k * dv w t = dv q t * ev d t + ev q t * dv d t := fun t => by
      have h1 : ∀ s, ev (scaleL k w) s = ev (mulL q d) s := fun s => by unfold scaleL; rw [ev_scale, ev_mulL]; exact eq s
      have := dv_congr h1 t
      unfold scaleL at this
      rw [dv_scale, dv_mulL] at this
      exact this
    have y : Dv d (mulL (slopeI d) q) := by
      have x2 := x.trans h2
      refine Dv.rest (a := slopeI w) (b := d) (q := slopeI q) (k := k) (fun t => ?_) x2 (Dv.refl d)
      rw [ev_slopeI, ev_slopeI, ev_mulL, ev_slopeI, s1 t]
      grind
    rcases i.prime (slopeI_trim i.td) y with z | z
    · exact i.slope z
    · obtain ⟨k2, q2, hk2, e2⟩ := z
      refine h d i ⟨k2 * k, q2, Int.mul_ne_zero hk2 hk, fun t => ?_⟩
      have a1 := eq t
      have a2 := e2 t
      rw [ev_pmul]
      grind
/-- two factors of one without squares have no common part -/
theorem SqFree.apart {w a b e : List Int} {k : Int} (h : SqFree w) (hk : k ≠ 0) (eq : ∀ t, k * ev w t = ev a t * ev b t) (te : Trim e) (h1 : Dv e a) (h2 : Dv e b) : e.length = 1 := by
  refine h e te (Dv.of_times hk (b := mulL a b) (fun t => by rw [ev_mulL]; exact eq t) h1.left) (Dv.of_times hk (b := addL (mulL (slopeI a) b) (mulL a (slopeI b))) (fun t => ?_) ?_)
  · have h1 : ∀ s, ev (scaleL k w) s = ev (mulL a b) s := fun s => by unfold scaleL; rw [ev_scale, ev_mulL]; exact eq s
    have := dv_congr h1 t
    unfold scaleL at this
    rw [dv_scale, dv_mulL] at this
    rw [ev_slopeI, ev_addL, ev_mulL, ev_mulL, ev_slopeI, ev_slopeI, this]
  · exact Dv.comb (b := mulL (slopeI a) b) (r := mulL a (slopeI b)) (q := [1]) (k := 1) (by decide) (fun t => by rw [ev_addL, ev_one]; omega) h2.right h1.left
/-- a factor has no squares -/
theorem SqFree.factor {w a b : List Int} {k : Int} (h : SqFree w) (hk : k ≠ 0) (eq : ∀ t, k * ev w t = ev a t * ev b t) : SqFree a := fun e te h1 h2 => by
  refine h e te (Dv.of_times hk (b := mulL a b) (fun t => by rw [ev_mulL]; exact eq t) h1.left) (Dv.of_times hk (b := addL (mulL (slopeI a) b) (mulL a (slopeI b))) (fun t => ?_) ?_)
  · have h1 : ∀ s, ev (scaleL k w) s = ev (mulL a b) s := fun s => by unfold scaleL; rw [ev_scale, ev_mulL]; exact eq s
    have := dv_congr h1 t
    unfold scaleL at this
    rw [dv_scale, dv_mulL] at this
    rw [ev_slopeI, ev_addL, ev_mulL, ev_mulL, ev_slopeI, ev_slopeI, this]
  · exact Dv.comb (b := mulL (slopeI a) b) (r := mulL a (slopeI b)) (q := [1]) (k := 1) (by decide) (fun t => by rw [ev_addL, ev_one]; omega) h2.left h1.left
end DL
end L2

/-! SR: parts without squares: what stands while they are taken off. Plain Lean. -/
namespace L2
namespace DL
open PySem PySem.Spec PyProof PyProof.Rows
theorem plain_len1 {w : List Int} (p : Plain w) (h : w.length = 1) : w = [1] := by
  obtain ⟨c, rfl⟩ := List.length_eq_one_iff.mp h
  have h1 := p.one (by simp)
  have h2 := p.pos (by simp)
  have h3 : (0 : Int) < c := h2
  have h4 : contI 0 [c] = gcdI 0 c := rfl
  rw [h4] at h1
  have h5 : gcdI 0 c = (c.natAbs : Int) := by unfold gcdI; simp
  rw [h5] at h1
  have : c = 1 := by omega
  rw [this]
theorem plain_pmul {a b : List Int} (pa : Plain a) (pb : Plain b) (na : a ≠ []) (nb : b ≠ []) : Plain (pmul a b) := by
  have n := pmul_ne pa.trim pb.trim na nb
  have t := pmul_trim a b
  have pp := plainI_plain t
  have e := fun s => ev_plainI t n s
  have dv : Dv a (plainI (pmul a b)) := ⟨signI (pmul a b), b, signI_ne t n, fun s => by rw [e s, ev_pmul, Int.mul_comm]⟩
  obtain ⟨q, tq, eq⟩ := dv.whole pa pp.trim
  have key : ∀ s, ev b s = signI (pmul a b) * ev q s := fun s => by
    have := ev_cancel (a := b) (b := scaleL (signI (pmul a b)) q) pa.trim na (fun s => by
      have h1 := e s
      have h2 := eq s
      rw [ev_pmul] at h1
      unfold scaleL
      rw [ev_scale]
      grind) s
    unfold scaleL at this
    rw [ev_scale] at this
    exact this
  have eb : b = scaleL (signI (pmul a b)) q := ev_ext pb.trim (scaleL_trim (signI_ne t n) tq) fun s => by unfold scaleL; rw [ev_scale]; exact key s
  have d1 : signI (pmul a b) ∣ contI 0 b := dvd_contI _ 0 (Int.dvd_zero _) fun x hx => by
    rw [eb] at hx
    obtain ⟨y, _, rfl⟩ := List.mem_map.mp hx
    exact ⟨y, rfl⟩
  rw [pb.one nb] at d1
  have l1 : 0 < (pmul a b).getLastD 1 := by
    have la := pa.pos na
    have lb := pb.pos nb
    have lp := pmul_len pa.trim pb.trim na nb
    rw [← co_last n, lp]
    unfold pmul
    rw [co_cutI]
    have := mulL_top a b na nb
    rw [show a.length + b.length - 1 - 1 = a.length + b.length - 2 by omega, this]
    exact Int.mul_pos la lb
  have s1 : signI (pmul a b) = contI 0 (pmul a b) := by unfold signI; rw [if_pos l1]
  rw [s1] at d1
  have s2 := Int.eq_one_of_dvd_one (contI_nonneg _ 0 (Int.le_refl 0)) d1
  exact ⟨t, fun _ => l1, fun _ => s2⟩
theorem plain_one' : Plain [1] := ⟨trim_one.mpr (by decide), fun _ => by decide, fun _ => by decide⟩
theorem plain_ppow {a : List Int} (pa : Plain a) (na : a ≠ []) : ∀ n, Plain (ppow a n)
  | 0 => plain_one'
  | n + 1 => plain_pmul pa (plain_ppow pa na n) na (ppow_ne pa.trim na n)
/-- the parts once each -/
def RR : List (List Int × Nat) → List Int
  | [] => [1]
  | x :: fs => pmul x.1 (RR fs)
/-- the parts so often -/
def PP : List (List Int × Nat) → List Int
  | [] => [1]
  | x :: fs => pmul (ppow x.1 x.2) (PP fs)
theorem ev_RR_cons (x : List Int × Nat) (fs : List (List Int × Nat)) (t : Int) : ev (RR (x :: fs)) t = ev x.1 t * ev (RR fs) t := by show ev (pmul _ _) t = _; rw [ev_pmul]
theorem ev_PP_cons (x : List Int × Nat) (fs : List (List Int × Nat)) (t : Int) : ev (PP (x :: fs)) t = ev x.1 t ^ x.2 * ev (PP fs) t := by show ev (pmul _ _) t = _; rw [ev_pmul, ev_ppow]
theorem ev_RR_app (t : Int) : ∀ fs gs : List (List Int × Nat), ev (RR (fs ++ gs)) t = ev (RR fs) t * ev (RR gs) t
  | [], gs => by show _ = ev [1] t * _; rw [ev_one, Int.one_mul]; rfl
  | x :: fs, gs => by rw [List.cons_append, ev_RR_cons, ev_RR_cons, ev_RR_app t fs gs, Int.mul_assoc]
theorem ev_PP_app (t : Int) : ∀ fs gs : List (List Int × Nat), ev (PP (fs ++ gs)) t = ev (PP fs) t * ev (PP gs) t
  | [], gs => by show _ = ev [1] t * _; rw [ev_one, Int.one_mul]; rfl
  | x :: fs, gs => by rw [List.cons_append, ev_PP_cons, ev_PP_cons, ev_PP_app t fs gs, Int.mul_assoc]
theorem ev_RR_one (x : List Int × Nat) (t : Int) : ev (RR [x]) t = ev x.1 t := by rw [ev_RR_cons]; show _ * ev [1] t = _; rw [ev_one, Int.mul_one]
theorem ev_PP_one (x : List Int × Nat) (t : Int) : ev (PP [x]) t = ev x.1 t ^ x.2 := by rw [ev_PP_cons]; show _ * ev [1] t = _; rw [ev_one, Int.mul_one]
theorem PP_trim : ∀ fs, Trim (PP fs)
  | [] => trim_one.mpr (by decide)
  | x :: fs => pmul_trim _ _
theorem RR_trim : ∀ fs, Trim (RR fs)
  | [] => trim_one.mpr (by decide)
  | x :: fs => pmul_trim _ _
theorem PP_ne : ∀ {fs : List (List Int × Nat)}, (∀ x ∈ fs, Plain x.1 ∧ x.1 ≠ []) → PP fs ≠ []
  | [], _ => by simp [PP]
  | x :: fs, h => pmul_ne (ppow_trim _ _) (PP_trim fs) (ppow_ne (h x List.mem_cons_self).1.trim (h x List.mem_cons_self).2 _) (PP_ne fun y hy => h y (List.mem_cons_of_mem _ hy))
theorem PP_plain : ∀ {fs : List (List Int × Nat)}, (∀ x ∈ fs, Plain x.1 ∧ x.1 ≠ []) → Plain (PP fs)
  | [], _ => plain_one'
  | x :: fs, h => plain_pmul (plain_ppow (h x List.mem_cons_self).1 (h x List.mem_cons_self).2 _) (PP_plain fun y hy => h y (List.mem_cons_of_mem _ hy))
    (ppow_ne (h x List.mem_cons_self).1.trim (h x List.mem_cons_self).2 _) (PP_ne fun y hy => h y (List.mem_cons_of_mem _ hy))
theorem Irr.of_pow {d a : List Int} (i : Irr d) (ta : Trim a) : ∀ n, Dv d (ppow a n) → Dv d a
  | 0, h => absurd (dv_one h i.td) (by have := i.ld; omega)
  | n + 1, h => by
    rcases i.prime (b := ppow a n) ta (Dv.to_times (k := 1) (fun t => by show 1 * ev (pmul a (ppow a n)) t = _; rw [ev_pmul, ev_mulL]; omega) h) with z | z
    · exact z
    · exact i.of_pow ta n z
theorem Irr.of_PP {d : List Int} (i : Irr d) : ∀ {fs : List (List Int × Nat)}, (∀ x ∈ fs, Trim x.1) → Dv d (PP fs) → Dv d (RR fs)
  | [], _, h => h
  | x :: fs, ht, h => by
    rcases i.prime (b := PP fs) (ppow_trim x.1 x.2) (Dv.to_times (k := 1) (fun t => by show 1 * ev (pmul _ (PP fs)) t = _; rw [ev_pmul, ev_mulL]; omega) h) with z | z
    · exact Dv.to_times (k := 1) (a := mulL x.1 (RR fs)) (fun t => by rw [ev_mulL, ev_RR_cons]; omega) (i.of_pow (ht x List.mem_cons_self) _ z).left
    · exact Dv.to_times (k := 1) (a := mulL x.1 (RR fs)) (fun t => by rw [ev_mulL, ev_RR_cons]; omega) (i.of_PP (fun y hy => ht y (List.mem_cons_of_mem _ hy)) z).right
/-- what stands while parts are taken off -/
structure Mus (f : List Int) (fs : List (List Int × Nat)) (n : Nat) (w c : List Int) : Prop where
  n1 : 1 ≤ n
  pw : Plain w
  nw : w ≠ []
  pc : Plain c
  nc : c ≠ []
  eq : ∃ k l : Int, k ≠ 0 ∧ l ≠ 0 ∧ ∀ t, k * ev f t = l * (ev (PP fs) t * ev w t ^ n * ev c t)
  sq : ∃ (W : List Int) (k l : Int), k ≠ 0 ∧ l ≠ 0 ∧ SqFree W ∧ ∀ t, k * ev W t = l * (ev (RR fs) t * ev w t)
  inc : ∀ d, Irr d → Dv d c → Dv d w
  ok : ∀ x ∈ fs, Plain x.1 ∧ 1 < x.1.length ∧ 1 ≤ x.2 ∧ x.2 < n
  up : fs.Pairwise fun x y => x.2 < y.2
theorem mus_start {f c0 q : List Int} (tf : Trim f) (nf : f ≠ []) (tq : Trim q) (hg : IsGcd f (slopeI f) c0) (e : ∀ t, ev f t = ev q t * ev c0 t) : Mus f [] 1 (plainI q) c0 := by
  have nq : q ≠ [] := by
    rintro rfl
    exact nf (nil_of_ev tf fun t => by rw [e t]; show 0 * _ = 0; rw [Int.zero_mul])
  have nc := hg.left.ne tf nf
  have pw := plainI_plain tq
  have nw : plainI q ≠ [] := fun z => nq (plainI_nil.mp z)
  obtain ⟨s, hs, es⟩ : ∃ s : Int, s ≠ 0 ∧ ∀ t, ev q t = s * ev (plainI q) t := ⟨signI q, signI_ne tq nq, fun t => (ev_plainI tq nq t).symm⟩
  have r := fun d (i : Irr d) => radical (d := d) (s := 1) tf nf (w := scaleL s (plainI q)) (scaleL_trim hs pw.trim) hg.plain.trim hg (by decide) (fun t => by unfold scaleL; rw [ev_scale, ← es t, Int.one_mul]; exact e t) i
  have sc : ∀ d, (Dv d (scaleL s (plainI q)) ↔ Dv d (plainI q)) := fun d => ⟨fun h => Dv.of_times (k := s) hs (fun t => by unfold scaleL; rw [ev_scale]) h, fun h => Dv.to_times (k := s) (fun t => by unfold scaleL; rw [ev_scale]) h⟩
  refine ⟨Nat.le_refl 1, pw, nw, hg.plain, nc, ⟨1, s, by decide, hs, fun t => ?_⟩, ⟨plainI q, 1, 1, by decide, by decide, sqfree_of pw.trim nw fun d i h => (r d i).2 ((sc _).mpr h), fun t => ?_⟩, fun d i h => (sc _).mp ((r d i).1 (h.trans hg.left)), fun x hx => (by cases hx), .nil⟩
  · rw [Int.one_mul, e t, es t, Int.pow_one]
    show _ = s * (ev [1] t * _ * _)
    rw [ev_one]
    grind
  · show _ = 1 * (ev [1] t * _)
    rw [ev_one, Int.one_mul, Int.one_mul]
theorem Mus.next {f w c y q r : List Int} {fs : List (List Int × Nat)} {n : Nat} (m : Mus f fs n w c) (hg : IsGcd w c y) (tq : Trim q) (tr : Trim r) (eq : ∀ t, ev w t = ev q t * ev y t) (er : ∀ t, ev c t = ev r t * ev y t) :
    Mus f (if 1 < (plainI q).length then fs ++ [(plainI q, n)] else fs) (n + 1) y (plainI r) := by
  have ny := hg.left.ne m.pw.trim m.nw
  have nq : q ≠ [] := by
    rintro rfl
    exact m.nw (nil_of_ev m.pw.trim fun t => by rw [eq t]; show 0 * _ = 0; rw [Int.zero_mul])
  have nr : r ≠ [] := by
    rintro rfl
    exact m.nc (nil_of_ev m.pc.trim fun t => by rw [er t]; show 0 * _ = 0; rw [Int.zero_mul])
  have pq := plainI_plain tq
  have pr := plainI_plain tr
  have nq' : plainI q ≠ [] := fun z => nq (plainI_nil.mp z)
  have nr' : plainI r ≠ [] := fun z => nr (plainI_nil.mp z)
  obtain ⟨s, hs, es⟩ : ∃ s : Int, s ≠ 0 ∧ ∀ t, ev q t = s * ev (plainI q) t := ⟨signI q, signI_ne tq nq, fun t => (ev_plainI tq nq t).symm⟩
  obtain ⟨s2, hs2, es2⟩ : ∃ s : Int, s ≠ 0 ∧ ∀ t, ev r t = s * ev (plainI r) t := ⟨signI r, signI_ne tr nr, fun t => (ev_plainI tr nr t).symm⟩
  have hP : ∀ t, ev (PP (if 1 < (plainI q).length then fs ++ [(plainI q, n)] else fs)) t = ev (PP fs) t * ev (plainI q) t ^ n := fun t => by
    split
    · rw [ev_PP_app, ev_PP_one]
    · rename_i h
      have := List.length_pos_iff.mpr nq'
      rw [plain_len1 pq (by omega), ev_one, Int.one_pow, Int.mul_one]
  have hR : ∀ t, ev (RR (if 1 < (plainI q).length then fs ++ [(plainI q, n)] else fs)) t = ev (RR fs) t * ev (plainI q) t := fun t => by
    split
    · rw [ev_RR_app, ev_RR_one]
    · rename_i h
      have := List.length_pos_iff.mpr nq'
      rw [plain_len1 pq (by omega), ev_one, Int.mul_one]
  obtain ⟨k, l, hk, hl, e⟩ := m.eq
  obtain ⟨W, k2, l2, hk2, hl2, sf, e2⟩ := m.sq
  have hn : ∀ t, ev w t ^ n = s ^ n * (ev (plainI q) t ^ n * ev y t ^ n) := fun t => by rw [eq t, es t, Int.mul_pow, Int.mul_pow, Int.mul_assoc]
  have hsn : s ^ n ≠ 0 := Int.pow_ne_zero hs
  refine ⟨by omega, hg.plain, ny, pr, nr', ⟨k, l * s ^ n * s2, hk, Int.mul_ne_zero (Int.mul_ne_zero hl hsn) hs2, fun t => ?_⟩, ⟨W, k2, l2 * s, hk2, Int.mul_ne_zero hl2 hs, sf, fun t => ?_⟩, fun d i h => ?_, fun x hx => ?_, ?_⟩
  · rw [hP t, e t, hn t, er t, es2 t, Int.pow_succ]
    generalize s ^ n = u1
    generalize ev (plainI q) t ^ n = u2
    generalize ev y t ^ n = u3
    grind
  · rw [hR t, e2 t, eq t, es t]
    grind
  · have h1 : Dv d c := h.trans ⟨1, scaleL s2 y, by decide, fun t => by unfold scaleL; rw [ev_scale, er t, es2 t]; grind⟩
    exact hg.most d (m.inc d i h1) h1
  · by_cases hl : 1 < (plainI q).length
    · rw [if_pos hl] at hx
      rcases List.mem_append.mp hx with hx | hx
      · obtain ⟨h1, h2, h3, h4⟩ := m.ok x hx
        exact ⟨h1, h2, h3, by omega⟩
      · rw [List.mem_singleton.mp hx]
        exact ⟨pq, hl, m.n1, by show n < n + 1; omega⟩
    · rw [if_neg hl] at hx
      obtain ⟨h1, h2, h3, h4⟩ := m.ok x hx
      exact ⟨h1, h2, h3, by omega⟩
  · split
    · refine List.pairwise_append.mpr ⟨m.up, List.pairwise_singleton _ _, fun x hx y hy => ?_⟩
      rw [List.mem_singleton.mp hy]
      exact (m.ok x hx).2.2.2
    · exact m.up
theorem Mus.dvs {f w c : List Int} {fs : List (List Int × Nat)} {n : Nat} (m : Mus f fs n w c) : Dv w f ∧ Dv c f := by
  obtain ⟨k, l, hk, hl, e⟩ := m.eq
  obtain ⟨j, hj⟩ : ∃ j, n = j + 1 := ⟨n - 1, by have := m.n1; omega⟩
  subst hj
  refine ⟨⟨k, scaleL l (mulL (PP fs) (mulL (ppow w j) c)), hk, fun t => ?_⟩, ⟨k, scaleL l (mulL (PP fs) (ppow w (j + 1))), hk, fun t => ?_⟩⟩
  · unfold scaleL
    rw [e t, ev_scale, ev_mulL, ev_mulL, ev_ppow, Int.pow_succ]
    generalize ev w t ^ j = u
    grind
  · unfold scaleL
    rw [e t, ev_scale, ev_mulL, ev_ppow]
    generalize ev w t ^ (j + 1) = u
    grind
/-- the parts of f -/
structure Parts (f : List Int) (fs : List (List Int × Nat)) : Prop where
  ok : ∀ x ∈ fs, Plain x.1 ∧ 1 < x.1.length ∧ 1 ≤ x.2
  up : fs.Pairwise fun x y => x.2 < y.2
  sq : ∃ (W : List Int) (k l : Int), k ≠ 0 ∧ l ≠ 0 ∧ SqFree W ∧ ∀ t, k * ev W t = l * ev (RR fs) t
  pp : PP fs = plainI f
theorem Mus.done {f w c : List Int} {fs : List (List Int × Nat)} {n : Nat} (m : Mus f fs n w c) (tf : Trim f) (nf : f ≠ []) (hw : ¬1 < w.length) : Parts f fs := by
  have lw := List.length_pos_iff.mpr m.nw
  have lc := List.length_pos_iff.mpr m.nc
  have w1 := plain_len1 m.pw (by omega)
  have c1 : c = [1] := by
    by_cases h : 1 < c.length
    · obtain ⟨d, i, x⟩ := exists_irr c.length c (Nat.le_refl _) m.pc.trim h
      have := m.inc d i x
      rw [w1] at this
      have := dv_one this i.td
      have := i.ld
      omega
    · exact plain_len1 m.pc (by omega)
  have ok2 : ∀ x ∈ fs, Plain x.1 ∧ x.1 ≠ [] := fun x hx => ⟨(m.ok x hx).1, by have := (m.ok x hx).2.1; intro z; rw [z] at this; simp at this⟩
  obtain ⟨k, l, hk, hl, e⟩ := m.eq
  obtain ⟨W, k2, l2, hk2, hl2, sf, e2⟩ := m.sq
  refine ⟨fun x hx => ⟨(m.ok x hx).1, (m.ok x hx).2.1, (m.ok x hx).2.2.1⟩, m.up, ⟨W, k2, l2, hk2, hl2, sf, fun t => ?_⟩, ?_⟩
  · rw [e2 t, w1, ev_one, Int.mul_one]
  · refine plain_same (PP_plain ok2) (plainI_plain tf) hl (Int.mul_ne_zero hk (signI_ne tf nf)) fun t => ?_
    rw [Int.mul_assoc, ev_plainI tf nf, e t, w1, c1, ev_one, Int.one_pow]
    grind
/-- a part in its place -/
theorem Parts.at {f : List Int} {pre post : List (List Int × Nat)} {x : List Int × Nat} (p : Parts f (pre ++ x :: post)) : SqFree x.1 ∧ ∀ e, Trim e → Dv e x.1 → Dv e (PP pre) → e.length = 1 := by
  obtain ⟨W, k, l, hk, hl, sf, e⟩ := p.sq
  have split : ∀ t, k * ev W t = ev x.1 t * ev (scaleL l (mulL (RR pre) (RR post))) t := fun t => by
    rw [e t, ev_RR_app, ev_RR_cons]
    unfold scaleL
    rw [ev_scale, ev_mulL]
    grind
  refine ⟨sf.factor hk split, fun e te h1 h2 => ?_⟩
  have px := p.ok x (List.mem_append_right _ List.mem_cons_self)
  have nx : x.1 ≠ [] := by have := px.2.1; intro z; rw [z] at this; simp at this
  have ne := h1.ne px.1.trim nx
  have le := List.length_pos_iff.mpr ne
  by_cases c : e.length = 1
  · exact c
  · exfalso
    obtain ⟨d, i, y⟩ := exists_irr e.length e (Nat.le_refl _) te (by omega)
    have := i.of_PP (fun z hz => (p.ok z (List.mem_append_left _ hz)).1.trim) (y.trans h2)
    have l1 := sf.apart hk split i.td (y.trans h1) (Dv.to_times (k := l) (a := mulL (RR pre) (RR post)) (fun t => by unfold scaleL; rw [ev_scale]) this.left)
    have := i.ld
    omega
end DL
end L2

/-! SPj: parts without squares: what is promised. -/
namespace L2
namespace DL
open PySem PySem.Spec PyProof PyProof.Rows
/-- a part and how often -/
abbrev PI2 (x : List Int × Nat) : D := .tup [PT x.1, .int (x.2 : Int)]
abbrev PTs (fs : List (List Int × Nat)) : D := .tup (fs.map PI2)
/-- one polynomial that is not too great -/
structure Sm (a : List Int) : Prop where
  l : a.length ≤ 20
  b : ∃ M, Bits M a ∧ M ≤ 9000
theorem Sm.small {a b : List Int} (x : Sm a) (y : Sm b) : Small a b := by
  obtain ⟨M, b1, h1⟩ := x.b
  obtain ⟨N, b2, h2⟩ := y.b
  have := x.l
  have := y.l
  exact Small.mk' (by omega) (by omega) b1 b2 (by omega) (by omega)
def sp_wpart (C : Cs) : DSp := fun ds S Q _ => ∃ a g, ds = [PT a, PT g] ∧ Trim a ∧ Plain g ∧ g ≠ [] ∧ Dv g a ∧ Small a g ∧ ∀ q, Trim q → (∀ t, ev a t = ev q t * ev g t) → Q (PT (plainI q)) S
def sp_parts (C : Cs) : DSp := fun ds S Q _ => ∃ f, ds = [PT f] ∧ Trim f ∧ f ≠ [] ∧ f.length ≤ 20 ∧ (∃ M, Bits M f ∧ M ≤ 8000) ∧ ∀ fs, Parts f fs → (∀ x ∈ fs, x.2 ≤ 100) → fs.length ≤ 100 → Q (PTs fs) S
theorem call_wpart {C : Cs} {S : Sto} {Q : DK} {E : Addr → Sto → Prop} {a g : List Int} : sp_wpart C [PT a, PT g] S Q E = (Trim a ∧ Plain g ∧ g ≠ [] ∧ Dv g a ∧ Small a g ∧ ∀ q, Trim q → (∀ t, ev a t = ev q t * ev g t) → Q (PT (plainI q)) S) :=
  propext ⟨fun ⟨_, _, e, h⟩ => by simp only [List.cons.injEq] at e; obtain ⟨e1, e2, _⟩ := e; obtain rfl := pt_inj e1; obtain rfl := pt_inj e2; exact h, fun h => ⟨_, _, rfl, h⟩⟩
theorem call_parts {C : Cs} {S : Sto} {Q : DK} {E : Addr → Sto → Prop} {f : List Int} : sp_parts C [PT f] S Q E = (Trim f ∧ f ≠ [] ∧ f.length ≤ 20 ∧ (∃ M, Bits M f ∧ M ≤ 8000) ∧ ∀ fs, Parts f fs → (∀ x ∈ fs, x.2 ≤ 100) → fs.length ≤ 100 → Q (PTs fs) S) :=
  propext ⟨fun ⟨_, e, h⟩ => by rw [List.cons.injEq] at e; rw [pt_inj e.1]; exact h, fun h => ⟨_, rfl, h⟩⟩
/-- a plain divisor of what is not too great -/
theorem sm_dv {f g : List Int} {M : Nat} (tf : Trim f) (nf : f ≠ []) (lf : f.length ≤ 20) (bf : Bits M f) (hM : M ≤ 8000) (pg : Plain g) (d : Dv g f) : Sm g :=
  ⟨Nat.le_trans (d.len tf pg.trim nf).2 lf, M + 560, dv_bits40 bf (by omega) tf nf pg d, by omega⟩
end DL
end L2

namespace L2
namespace DL
open PySem PySem.Spec PyProof PyProof.Rows
local macro_rules | `(tactic| walk_at "dl") => `(tactic| simp only [sSeq, sSet, sIf, sRet, sPar, sNext, sDrop, sAsg, sRaise, eBin, eUn, eVar, eC, eB, eM, eM0, eTup, eLst, eCall, eAndV, eOrV, eNotV, eIf, aCons, aNil, tVal, tAndD, tOrD, tNotD, cBl, dName, dSub, dTup, dLst, dCons, dNil,
  onI_ii, onIC_ii, oAdd_ii, oAdd_tt, oIadd_ii, oMul_ii, oNeg_i, oEq_ii, oNe_ii, oIx_t, oIx_v, oIx_r, oLen_t, oLen_v, oLen_r, oAbs_i, o2I_ii, oInt_i, oInt_b, oTuple_t, oTuple_r, isi_int, isi_bool, isi_tup, oSet_r, oAppend_r, isL_r, iLstD_r, lstAt_sup, rdAt_sup, ix0, ix1, ix2, ix3, sFor, iRange1, iRange2,
  call_divisor, call_number, call_draw, call_whole, call_isWhole, call_isNumber, call_low, call_told, call_lover, call_right,
  call_content, call_parted, call_plain, call_isPoly, call_lpoly, oEq_pp, oNe_pp, oEq_p0, oNe_p0, iTupD, eLc, oMul_t, eSl, pNone, pSome, cSl, sAug, eLstRg1, tYesD, sPar3, call_figAt, call_pplus, call_pminus, call_scaled, call_raised, call_lsum, call_lproduct, call_ptimes, call_head, call_restBy, call_longdiv, call_lleft, call_common, call_lcommon, call_pslope, call_lslope, call_worth, call_lworth, call_lnumber, oNe_qq, iEnumTup, iRevTup, iRange2, call_ldivided, call_lform, call_lquotient, call_qworth, call_quotient, call_wcommon, call_qslope, call_lqslope, call_wpart,
  bodyEnds, bodyEX, List.set_cons_zero, List.set_cons_succ, List.getElem?_cons_zero, List.getElem?_cons_succ, decide_eq_true_eq, Bool.not_eq_true', decide_eq_false_iff_not, List.nil_append, List.append_nil, List.cons_append, Bool.false_eq_true, if_false, if_true, true_and, and_true])
/-- without_part: 0 one, 1 part -/
def t_without_part (C : Cs) : DS :=
  (sRet (eCall sp_plain [] (aCons (eBin oIx (eCall (sp_longdiv C) [] (aCons (eVar 0) (aCons (eVar 1) aNil))) (eC (.int 1))) aNil)))
def t_parts_4_5 (C : Cs) : DS :=
  (sAug 4 oIadd (eC (.int 1)))
def t_parts_4_4 (C : Cs) : DS :=
  (sSeq (sSet 2 (eCall (sp_wpart C) [] (aCons (eVar 2) (aCons (eVar 5) aNil))))
  (t_parts_4_5 C))
def t_parts_4_3 (C : Cs) : DS :=
  (sSeq (sSet 3 (eVar 5))
  (t_parts_4_4 C))
def t_parts_4_2 (C : Cs) : DS :=
  (sSeq (sIf (tVal (eBin oGt (eB oLen (aCons (eVar 6) aNil)) (eC (.int 1)))) (sDrop (eM oAppend (eVar 1) (aCons (eTup (aCons (eVar 6) (aCons (eVar 4) aNil))) aNil))) sNext)
  (t_parts_4_3 C))
def t_parts_4_1 (C : Cs) : DS :=
  (sSeq (sSet 6 (eCall (sp_wpart C) [] (aCons (eVar 3) (aCons (eVar 5) aNil))))
  (t_parts_4_2 C))
def t_parts_4_0 (C : Cs) : DS :=
  (sSeq (sSet 5 (eCall sp_common [] (aCons (eVar 3) (aCons (eVar 2) aNil))))
  (t_parts_4_1 C))
def t_parts_5 (C : Cs) : DS :=
  (sRet (eB oTuple (aCons (eVar 1) aNil)))
def t_parts_4 (C : Cs) : DS :=
  (sSeq (sWhile (tVal (eBin oGt (eB oLen (aCons (eVar 3) aNil)) (eC (.int 1)))) (t_parts_4_0 C))
  (t_parts_5 C))
def t_parts_3 (C : Cs) : DS :=
  (sSeq (sSet 4 (eC (.int 1)))
  (t_parts_4 C))
def t_parts_2 (C : Cs) : DS :=
  (sSeq (sSet 3 (eCall (sp_wpart C) [] (aCons (eVar 0) (aCons (eVar 2) aNil))))
  (t_parts_3 C))
def t_parts_1 (C : Cs) : DS :=
  (sSeq (sSet 2 (eCall sp_common [] (aCons (eVar 0) (aCons (eCall sp_pslope [] (aCons (eVar 0) aNil)) aNil))))
  (t_parts_2 C))
/-- parts: 0 one, 1 found, 2 rest, 3 left, 4 often, 5 further, 6 part -/
def t_parts (C : Cs) : DS :=
  (sSeq (sSet 1 (eLst aNil))
  (t_parts_1 C))
theorem sem_without_part {C : Cs} : ∀ ds S Q E, sp_wpart C ds S Q E → t_without_part C (bodyEX E) (bodyEnds Q) (dstart ["one", "part"] ds) S := by
  rintro ds S Q E ⟨a, g, rfl, ta, pg, ng, dg, ⟨la, lg, M, ba, bg, hM⟩, h⟩
  show t_without_part C (bodyEX E) (bodyEnds Q) [some (PT a), some (PT g)] S
  unfold t_without_part
  walk_at "dl"
  refine ⟨fun z => absurd z ng, fun _ => ⟨ta, pg.trim, by omega, ⟨M, M, ba, bg, ?_⟩, fun o q r k => ?_⟩⟩
  · have : (a.length + 1 - g.length + 1) * (M + 1) ≤ 42 * (M + 1) := Nat.mul_le_mul_right _ (by omega)
    omega
  · obtain ⟨e, _⟩ := long_exact ta pg ng dg k
    exact ⟨k.tq, by have := k.ql; omega, S, Sub.refl S, h q k.tq e⟩
theorem parts_43 {C : Cs} {EX : EXK} {T : DEnds} {S : Sto} {c y : List Int} {n : Nat} {of op ow oa : Option D} (tc : Trim c) (py : Plain y) (ny : y ≠ []) (d : Dv y c) (sm : Small c y)
    (h : ∀ r, Trim r → (∀ t, ev c t = ev r t * ev y t) → T.nx [of, op, some (PT (plainI r)), some (PT y), some (.int ((n : Int) + 1)), some (PT y), oa] S) :
    t_parts_4_3 C EX T [of, op, some (PT c), ow, some (.int (n : Int)), some (PT y), oa] S := by
  unfold t_parts_4_3
  walk_at "dl"
  unfold t_parts_4_4
  walk_at "dl"
  refine ⟨tc, py, ny, d, sm, fun r tr er => ?_⟩
  unfold t_parts_4_5
  walk_at "dl"
  exact h r tr er
theorem sem_parts {C : Cs} : ∀ ds S Q E, sp_parts C ds S Q E → t_parts C (bodyEX E) (bodyEnds Q) (dstart ["one", "found", "rest", "left", "often", "further", "part"] ds) S := by
  rintro ds S Q E ⟨f, rfl, tf, nf, lf, ⟨M, bf, hM⟩, h⟩
  show t_parts C (bodyEX E) (bodyEnds Q) [some (PT f), none, none, none, none, none, none] S
  unfold t_parts
  walk_at "dl"
  refine ⟨sz0, fun p np => ?_⟩
  have sl := slopeI_len f
  have ts := slopeI_trim tf
  unfold t_parts_1
  walk_at "dl"
  refine ⟨by omega, tf, ts, Small.mk' (n := M) (m := M + 6) (by omega) (by omega) bf (bf.slope (by omega)) (by omega) (by omega), fun c0 ok => ?_⟩
  have g := ok.gcd
  have nc := g.left.ne tf nf
  have sc := sm_dv tf nf lf bf hM g.plain g.left
  unfold t_parts_2
  walk_at "dl"
  refine ⟨tf, g.plain, nc, g.left, Sm.small ⟨lf, M, bf, by omega⟩ sc, fun q tq eq => ?_⟩
  have m0 := mus_start tf nf tq g eq
  unfold t_parts_3
  walk_at "dl"
  unfold t_parts_4
  have l0 : (plainI q).length + c0.length ≤ 40 := by
    have h1 := (m0.dvs.1.len tf m0.pw.trim nf).2
    have h2 := sc.l
    omega
  refine ⟨fun m δ S' => ∃ fs n w c o5 o6, Mus f fs n w c ∧ δ = [some (PT f), some (.ref p), some (PT c), some (PT w), some (.int (n : Int)), o5, o6] ∧ S' p = some (.lst (fs.map PI2)) ∧ (∀ z, z ≠ p → S' z = S z) ∧ m = w.length + c.length ∧ n + m ≤ 50 ∧ fs.length < n,
    ⟨_, [], 1, plainI q, c0, none, none, m0, rfl, sup_same, fun z hz => sup_ne hz, rfl, by omega, by decide⟩, ?_⟩
  rintro m δ S' ⟨fs, n, w, c, o5, o6, mu, rfl, hp, hs, rfl, hn, hl⟩
  have sub : Sub S S' := fun z o e => by
    have : z ≠ p := by rintro rfl; rw [np] at e; cases e
    rw [hs z this]; exact e
  have sw := sm_dv tf nf lf bf hM mu.pw mu.dvs.1
  have sc := sm_dv tf nf lf bf hM mu.pc mu.dvs.2
  have lw := List.length_pos_iff.mpr mu.nw
  have lc := List.length_pos_iff.mpr mu.nc
  walk_at "dl"
  simp only [List.length_map]
  by_cases hw : (1 : Int) < w.length
  · rw [if_pos hw]
    unfold t_parts_4_0
    walk_at "dl"
    refine ⟨mu.pw.trim, mu.pc.trim, sw.small sc, fun y oky => ?_⟩
    have gy := oky.gcd
    have ny := gy.left.ne mu.pw.trim mu.nw
    have ly := List.length_pos_iff.mpr ny
    have dyf := gy.left.trans mu.dvs.1
    have sy := sm_dv tf nf lf bf hM gy.plain dyf
    unfold t_parts_4_1
    walk_at "dl"
    refine ⟨mu.pw.trim, gy.plain, ny, gy.left, sw.small sy, fun a ta ea => ?_⟩
    have lyw := (gy.left.len mu.pw.trim gy.plain.trim mu.nw).2
    have fin : ∀ r, Trim r → (∀ t, ev c t = ev r t * ev y t) → y.length + (plainI r).length < w.length + c.length := fun r tr er => by
      have nr : r ≠ [] := by
        rintro rfl
        exact mu.nc (nil_of_ev mu.pc.trim fun t => by rw [er t]; show 0 * _ = 0; rw [Int.zero_mul])
      have e1 : c = pmul r y := ev_ext mu.pc.trim (pmul_trim _ _) fun t => by rw [ev_pmul]; exact er t
      have l1 := pmul_len tr gy.plain.trim nr ny
      rw [← e1] at l1
      have l2 := List.length_pos_iff.mpr nr
      rw [plainI_len]
      omega
    unfold t_parts_4_2
    walk_at "dl"
    simp only [List.length_map]
    by_cases ha : (1 : Int) < (plainI a).length
    · rw [if_pos ha]
      have hp' := lstAt_iff.mpr hp
      rw [rdAt_of hp', hp']
      refine ⟨trivial, sz2, size_lt (by simp; omega), ?_⟩
      refine parts_43 mu.pc.trim gy.plain ny gy.right (sc.small sy) fun r tr er => ?_
      have mn := mu.next gy ta tr ea er
      rw [if_pos (by omega)] at mn
      have := fin r tr er
      refine ⟨y.length + (plainI r).length, this, fs ++ [(plainI a, n)], n + 1, y, plainI r, _, _, mn, rfl, ?_, fun z hz => by rw [sup_ne hz]; exact hs z hz, rfl, by omega, by simp; omega⟩
      rw [sup_same, List.map_append]
      rfl
    · rw [if_neg ha]
      refine parts_43 mu.pc.trim gy.plain ny gy.right (sc.small sy) fun r tr er => ?_
      have mn := mu.next gy ta tr ea er
      rw [if_neg (by omega)] at mn
      have := fin r tr er
      exact ⟨y.length + (plainI r).length, this, fs, n + 1, y, plainI r, _, _, mn, rfl, hp, hs, rfl, by omega, by omega⟩
  · rw [if_neg hw]
    unfold t_parts_5
    walk_at "dl"
    rw [rdAt_of (lstAt_iff.mpr hp)]
    refine ⟨S, sub, h fs (mu.done tf nf (by omega)) (fun x hx => ?_) (by omega)⟩
    have := (mu.ok x hx).2.2.2
    omega
end DL
end L2

/-! IS: is, is not (bools, None), in, not in (data), kinds of any value. -/
namespace L2
namespace DL
open PySem PySem.Spec PyProof PyProof.Rows
def oIsB : DOp2 := fun x y S Q => match x, y with
  | .bl a, .bl b => Q (.bl (decide (a = b))) S
  | _, _ => False
def oNotB : DOp2 := fun x y S Q => match x, y with
  | .bl a, .bl b => Q (.bl (!decide (a = b))) S
  | _, _ => False
section
variable {X : Cx}
theorem io_isB : IsOp2 X (compareOp .Is) oIsB := ⟨_, op_isBl, fun H S x y v w Q Qd rx ry rs h q => by
  unfold oIsB at h
  split at h
  · cases rx; cases ry
    exact ⟨_, _, rfl, rfl, q _ S _ H h (.bl _) rs (Kept.refl H)⟩
  · exact h.elim⟩
theorem io_notB : IsOp2 X (compareOp .IsNot) oNotB := ⟨_, op_notBl, fun H S x y v w Q Qd rx ry rs h q => by
  unfold oNotB at h
  split at h
  · cases rx; cases ry
    exact ⟨_, _, rfl, rfl, q _ S _ H h (.bl _) rs (Kept.refl H)⟩
  · exact h.elim⟩
/-- is it None -/
def nonB : D → Bool
  | .non => true
  | _ => false
def oIsN : DOp2 := fun x y S Q => match y with
  | .non => Q (.bl (nonB x)) S
  | _ => False
def oNotN : DOp2 := fun x y S Q => match y with
  | .non => Q (.bl (!nonB x)) S
  | _ => False
theorem nonB_of {K : PySem.W.Frag} {H : Hp} {x : D} {v : V} (r : Rep K H x v) : nonB x = decide (v = .non) := by
  cases r <;> rfl
theorem io_isN : IsOp2 X (compareOp .Is) oIsN := ⟨_, op_isN, fun H S x y v w Q Qd rx ry rs h q => by
  unfold oIsN at h
  split at h
  · cases ry
    refine ⟨rfl, ?_⟩
    rw [← nonB_of rx]
    exact q _ S _ H h (.bl _) rs (Kept.refl H)
  · exact h.elim⟩
theorem io_notN : IsOp2 X (compareOp .IsNot) oNotN := ⟨_, op_notN, fun H S x y v w Q Qd rx ry rs h q => by
  unfold oNotN at h
  split at h
  · cases ry
    refine ⟨rfl, ?_⟩
    rw [← nonB_of rx]
    exact q _ S _ H h (.bl _) rs (Kept.refl H)
  · exact h.elim⟩
end
variable {S : Sto} {Q : DK}
theorem oIsB_bb {a b : Bool} : oIsB (.bl a) (.bl b) S Q = Q (.bl (decide (a = b))) S := rfl
theorem oNotB_bb {a b : Bool} : oNotB (.bl a) (.bl b) S Q = Q (.bl (!decide (a = b))) S := rfl
theorem oIsN_n {x : D} : oIsN x .non S Q = Q (.bl (nonB x)) S := rfl
theorem oNotN_n {x : D} : oNotN x .non S Q = Q (.bl (!nonB x)) S := rfl
/-! ### kinds -/
def intB : D → Bool
  | .int _ => true
  | .bl _ => true
  | _ => false
def bolB : D → Bool
  | .bl _ => true
  | _ => false
def tupB : D → Bool
  | .tup _ => true
  | _ => false
def strB : D → Bool
  | .str _ => true
  | _ => false
/-- a whole number and no truth -/
def isW : D → Bool
  | .int _ => true
  | _ => false
/-- its kind is known -/
def Kn (S : Sto) (d : D) : Prop := match d with
  | .ty _ => False
  | .ref a => ∃ ds, rdL S a ds
  | _ => True
theorem Kn.tn {S : Sto} {a : Addr} (h : Kn S (.ref a)) : tyName (.ref a) S = some "list" := by
  obtain ⟨ds, h | h⟩ := h <;> simp only [tyName, h]
theorem kit_ni : kitB "NoneType" "int" = some false := by decide +kernel
theorem kit_bi : kitB "bool" "int" = some true := by decide +kernel
theorem kit_si : kitB "str" "int" = some false := by decide +kernel
theorem kit_ti : kitB "tuple" "int" = some false := by decide +kernel
theorem kit_li : kitB "list" "int" = some false := by decide +kernel
theorem kit_nb : kitB "NoneType" "bool" = some false := by decide +kernel
theorem kit_bb : kitB "bool" "bool" = some true := by decide +kernel
theorem kit_sb : kitB "str" "bool" = some false := by decide +kernel
theorem kit_tb : kitB "tuple" "bool" = some false := by decide +kernel
theorem kit_lb : kitB "list" "bool" = some false := by decide +kernel
theorem kit_nt : kitB "NoneType" "tuple" = some false := by decide +kernel
theorem kit_bt : kitB "bool" "tuple" = some false := by decide +kernel
theorem kit_st : kitB "str" "tuple" = some false := by decide +kernel
theorem kit_it : kitB "int" "tuple" = some false := by decide +kernel
theorem kit_lt : kitB "list" "tuple" = some false := by decide +kernel
theorem kit_ns : kitB "NoneType" "str" = some false := by decide +kernel
theorem kit_bs : kitB "bool" "str" = some false := by decide +kernel
theorem kit_ss : kitB "str" "str" = some true := by decide +kernel
theorem kit_is : kitB "int" "str" = some false := by decide +kernel
theorem kit_ts : kitB "tuple" "str" = some false := by decide +kernel
theorem kit_ls : kitB "list" "str" = some false := by decide +kernel
theorem isi_kint {d : D} (k : Kn S d) : oIsi [d, .ty "int"] S Q = Q (.bl (intB d)) S := by
  cases d with
  | non => exact oIsi_eq rfl kit_ni
  | bl b => exact oIsi_eq rfl kit_bi
  | int i => exact oIsi_eq rfl kit_ii
  | str x => exact oIsi_eq rfl kit_si
  | ty n => exact k.elim
  | ref a => exact oIsi_eq k.tn kit_li
  | tup xs => exact oIsi_eq rfl kit_ti
  | ltv xs => exact oIsi_eq rfl kit_li
theorem isi_kbool {d : D} (k : Kn S d) : oIsi [d, .ty "bool"] S Q = Q (.bl (bolB d)) S := by
  cases d with
  | non => exact oIsi_eq rfl kit_nb
  | bl b => exact oIsi_eq rfl kit_bb
  | int i => exact oIsi_eq rfl kit_ib
  | str x => exact oIsi_eq rfl kit_sb
  | ty n => exact k.elim
  | ref a => exact oIsi_eq k.tn kit_lb
  | tup xs => exact oIsi_eq rfl kit_tb
  | ltv xs => exact oIsi_eq rfl kit_lb
theorem isi_ktup {d : D} (k : Kn S d) : oIsi [d, .ty "tuple"] S Q = Q (.bl (tupB d)) S := by
  cases d with
  | non => exact oIsi_eq rfl kit_nt
  | bl b => exact oIsi_eq rfl kit_bt
  | int i => exact oIsi_eq rfl kit_it
  | str x => exact oIsi_eq rfl kit_st
  | ty n => exact k.elim
  | ref a => exact oIsi_eq k.tn kit_lt
  | tup xs => exact oIsi_eq rfl kit_tt
  | ltv xs => exact oIsi_eq rfl kit_lt
theorem isi_kstr {d : D} (k : Kn S d) : oIsi [d, .ty "str"] S Q = Q (.bl (strB d)) S := by
  cases d with
  | non => exact oIsi_eq rfl kit_ns
  | bl b => exact oIsi_eq rfl kit_bs
  | int i => exact oIsi_eq rfl kit_is
  | str x => exact oIsi_eq rfl kit_ss
  | ty n => exact k.elim
  | ref a => exact oIsi_eq k.tn kit_ls
  | tup xs => exact oIsi_eq rfl kit_ts
  | ltv xs => exact oIsi_eq rfl kit_ls
theorem isW_eq (d : D) : (intB d && !bolB d) = isW d := by cases d <;> rfl
theorem rdL.sup {S : Sto} {a p : Addr} {ds : List D} {o : MO} (h : rdL S a ds) (np : S p = none) : rdL (sup S p o) a ds := by
  have : a ≠ p := by rintro rfl; rcases h with h | h <;> (rw [np] at h; cases h)
  rcases h with h | h
  · exact .inl (by rw [sup_ne this]; exact h)
  · exact .inr (by rw [sup_ne this]; exact h)
theorem Kn.sup {S : Sto} {p : Addr} {o : MO} {d : D} (h : Kn S d) (np : S p = none) : Kn (sup S p o) d := by
  cases d with
  | ref a => obtain ⟨ds, h⟩ := h; exact ⟨ds, h.sup np⟩
  | _ => exact h
theorem Kn.sub {S S' : Sto} {d : D} (h : Kn S d) (s : Sub S S') : Kn S' d := by
  cases d with
  | ref a =>
    obtain ⟨ds, h | h⟩ := h
    · exact ⟨ds, .inl (s _ _ h)⟩
    · exact ⟨ds, .inr (s _ _ h)⟩
  | _ => exact h
end DL
end L2

/-! SPk: any thing looked at: polynomials, quotients: what is promised. -/
namespace L2
namespace DL
open PySem PySem.Spec PyProof PyProof.Rows
/-- the items of a tuple -/
def items : D → List D
  | .tup ds => ds
  | _ => []
/-- its items' kinds are known -/
def Kn1 (S : Sto) (d : D) : Prop := Kn S d ∧ (items d).length ≤ 1000 ∧ ∀ e ∈ items d, Kn S e
def Kn2 (S : Sto) (d : D) : Prop := Kn S d ∧ (items d).length ≤ 1000 ∧ ∀ e ∈ items d, Kn1 S e
def PolyD (d : D) : Prop := ∃ a, d = PT a ∧ Trim a
def QuoD (d : D) : Prop := ∃ u v, d = QT u v ∧ QForm u v
def sp_wholeD : DSp := fun ds S Q _ => ∃ d, ds = [d] ∧ Kn S d ∧ Q (.bl (isW d)) S
def sp_polyD : DSp := fun ds S Q _ => ∃ d, ds = [d] ∧ Kn1 S d ∧ ∀ b : Bool, (b = true ↔ PolyD d) → Q (.bl b) S
def sp_isQD : DSp := fun ds S Q _ => ∃ d, ds = [d] ∧ Kn2 S d ∧ (∀ u v, d = QT u v → Trim u → Trim v → Small u v) ∧ ∀ b : Bool, (b = true ↔ QuoD d) → Q (.bl b) S
theorem call_wholeD {S : Sto} {Q : DK} {E : Addr → Sto → Prop} {d : D} : sp_wholeD [d] S Q E = (Kn S d ∧ Q (.bl (isW d)) S) :=
  propext ⟨fun ⟨_, e, h⟩ => by rw [List.cons.injEq] at e; rw [e.1]; exact h, fun h => ⟨_, rfl, h⟩⟩
theorem call_polyD {S : Sto} {Q : DK} {E : Addr → Sto → Prop} {d : D} : sp_polyD [d] S Q E = (Kn1 S d ∧ ∀ b : Bool, (b = true ↔ PolyD d) → Q (.bl b) S) :=
  propext ⟨fun ⟨_, e, h⟩ => by rw [List.cons.injEq] at e; rw [e.1]; exact h, fun h => ⟨_, rfl, h⟩⟩
theorem call_isQD {S : Sto} {Q : DK} {E : Addr → Sto → Prop} {d : D} : sp_isQD [d] S Q E = (Kn2 S d ∧ (∀ u v, d = QT u v → Trim u → Trim v → Small u v) ∧ ∀ b : Bool, (b = true ↔ QuoD d) → Q (.bl b) S) :=
  propext ⟨fun ⟨_, e, h⟩ => by rw [List.cons.injEq] at e; rw [e.1]; exact h, fun h => ⟨_, rfl, h⟩⟩
/-- all whole numbers -/
theorem ints_of : ∀ {ds : List D}, ds.all isW = true → ∃ a : List Int, ds = a.map D.int
  | [], _ => ⟨[], rfl⟩
  | d :: ds, h => by
    rw [List.all_cons, Bool.and_eq_true] at h
    obtain ⟨a, rfl⟩ := ints_of h.2
    cases d with
    | int i => exact ⟨i :: a, rfl⟩
    | _ => cases h.1
theorem all_isW (a : List Int) : (a.map D.int).all isW = true := by
  rw [List.all_eq_true]
  intro d hd
  obtain ⟨x, _, rfl⟩ := List.mem_map.mp hd
  rfl
theorem not_polyD {d : D} (h : tupB d = false ∨ (items d).all isW = false) : ¬PolyD d := by
  rintro ⟨a, rfl, ta⟩
  rcases h with h | h
  · cases h
  · have := all_isW a
    rw [show items (PT a) = a.map D.int from rfl, this] at h
    cases h
theorem polyD_pt {a : List Int} : PolyD (PT a) ↔ Trim a := ⟨fun ⟨b, e, t⟩ => by rw [pt_inj e]; exact t, fun t => ⟨a, rfl, t⟩⟩
/-- the form of a quotient by its greatest common divisors -/
theorem qform_iff {u v g : List Int} (tu : Trim u) (tv : Trim v) (nv : v ≠ []) (ig : IsGcd u v g) : QForm u v ↔ (0 < v.getLastD 1 ∧ gcdI (contI 0 u) (contI 0 v) = 1 ∧ g.length = 1) := by
  have cc : gcdI (contI 0 u) (contI 0 v) = contI 0 (u ++ v) := by
    have n1 := gcdI_nonneg (contI 0 u) (contI 0 v)
    have n2 := contI_nonneg (u ++ v) 0 (Int.le_refl 0)
    refine Int.dvd_antisymm n1 n2 (dvd_contI _ 0 (Int.dvd_zero _) fun x hx => ?_) (dvd_gcdI (dvd_contI u 0 (Int.dvd_zero _) fun x hx => (contI_dvd (u ++ v) 0).2 x (List.mem_append_left _ hx)) (dvd_contI v 0 (Int.dvd_zero _) fun x hx => (contI_dvd (u ++ v) 0).2 x (List.mem_append_right _ hx)))
    rcases List.mem_append.mp hx with hx | hx
    · exact Int.dvd_trans (gcdI_dvd_left _ _) ((contI_dvd u 0).2 x hx)
    · exact Int.dvd_trans (gcdI_dvd_right _ _) ((contI_dvd v 0).2 x hx)
  constructor
  · intro f
    refine ⟨f.pos, by rw [cc]; exact f.one, dv_one (f.prim g ig.left ig.right) ig.plain.trim⟩
  · rintro ⟨h1, h2, h3⟩
    have g1 := plain_len1 ig.plain h3
    exact ⟨tu, tv, h1, nv, fun d p q => by have := ig.most d p q; rw [g1] at this; exact this, by rw [← cc]; exact h2⟩
end DL
end L2

namespace L2
namespace DL
open PySem PySem.Spec PyProof PyProof.Rows
local macro_rules | `(tactic| walk_at "dl") => `(tactic| simp only [sSeq, sSet, sIf, sRet, sPar, sNext, sDrop, sAsg, sRaise, eBin, eUn, eVar, eC, eB, eM, eM0, eTup, eLst, eCall, eAndV, eOrV, eNotV, eIf, aCons, aNil, tVal, tAndD, tOrD, tNotD, cBl, dName, dSub, dTup, dLst, dCons, dNil,
  onI_ii, onIC_ii, oAdd_ii, oAdd_tt, oIadd_ii, oMul_ii, oNeg_i, oEq_ii, oNe_ii, oIx_t, oIx_v, oIx_r, oLen_t, oLen_v, oLen_r, oAbs_i, o2I_ii, oInt_i, oInt_b, oTuple_t, oTuple_r, isi_int, isi_bool, isi_tup, oSet_r, oAppend_r, isL_r, iLstD_r, lstAt_sup, rdAt_sup, ix0, ix1, ix2, ix3, sFor, iRange1, iRange2,
  call_divisor, call_number, call_draw, call_whole, call_isWhole, call_isNumber, call_low, call_told, call_lover, call_right,
  call_content, call_parted, call_plain, call_lpoly, oEq_pp, oNe_pp, oEq_p0, oNe_p0, iTupD, eLc, oMul_t, eSl, pNone, pSome, cSl, sAug, eLstRg1, tYesD, sPar3, call_figAt, call_pplus, call_pminus, call_scaled, call_raised, call_lsum, call_lproduct, call_ptimes, call_head, call_restBy, call_longdiv, call_lleft, call_common, call_lcommon, call_pslope, call_lslope, call_worth, call_lworth, call_lnumber, oNe_qq, iEnumTup, iRevTup, iRange2, call_ldivided, call_lform, call_lquotient, call_qworth, call_quotient, call_wcommon, call_qslope, call_lqslope, call_wholeD, oIsB_bb, oNotB_bb, oIsN_n, oNotN_n,
  bodyEnds, bodyEX, List.set_cons_zero, List.set_cons_succ, List.getElem?_cons_zero, List.getElem?_cons_succ, decide_eq_true_eq, Bool.not_eq_true', decide_eq_false_iff_not, List.nil_append, List.append_nil, List.cons_append, Bool.false_eq_true, if_false, if_true, true_and, and_true])
/-- is_poly: 0 thing, 1 one -/
def t_is_poly : DS :=
  (sSeq (sIf (tOrD (tNotD (tVal (eB oIsi (aCons (eVar 0) (aCons (eC (.ty "tuple")) aNil))))) (tNotD (tVal (eB oAll (aCons (eLc (iTupD (eVar 0)) (dName 1) tYesD (eAndV (eB oIsi (aCons (eVar 1) (aCons (eC (.ty "int")) aNil))) (eNotV (eB oIsi (aCons (eVar 1) (aCons (eC (.ty "bool")) aNil))))) [1]) aNil))))) (sRet (eC (.bl false))) sNext)
  (sRet (eOrV (eBin oEq (eVar 0) (eTup aNil)) (eBin oNe (eBin oIx (eVar 0) (eUn oNeg (eC (.int 1)))) (eC (.int 0))))))
def t_is_quotient_2 : DS :=
  (sRet (eBin oEq (eB oLen (aCons (eCall sp_common [] (aCons (eBin oIx (eVar 0) (eC (.int 0))) (aCons (eBin oIx (eVar 0) (eC (.int 1))) aNil))) aNil)) (eC (.int 1))))
def t_is_quotient_1 : DS :=
  (sSeq (sIf (tOrD (tVal (eBin oEq (eBin oIx (eVar 0) (eC (.int 1))) (eTup aNil))) (tOrD (tVal (eBin oLt (eBin oIx (eBin oIx (eVar 0) (eC (.int 1))) (eUn oNeg (eC (.int 1)))) (eC (.int 0)))) (tVal (eBin oNe (eCall sp_divisor [] (aCons (eCall sp_content [] (aCons (eBin oIx (eVar 0) (eC (.int 0))) aNil)) (aCons (eCall sp_content [] (aCons (eBin oIx (eVar 0) (eC (.int 1))) aNil)) aNil))) (eC (.int 1)))))) (sRet (eC (.bl false))) sNext)
  (t_is_quotient_2))
/-- is_quotient: 0 thing -/
def t_is_quotient : DS :=
  (sSeq (sIf (tOrD (tNotD (tVal (eB oIsi (aCons (eVar 0) (aCons (eC (.ty "tuple")) aNil))))) (tOrD (tVal (eBin oNe (eB oLen (aCons (eVar 0) aNil)) (eC (.int 2)))) (tOrD (tNotD (tVal (eCall sp_polyD [] (aCons (eBin oIx (eVar 0) (eC (.int 0))) aNil)))) (tNotD (tVal (eCall sp_polyD [] (aCons (eBin oIx (eVar 0) (eC (.int 1))) aNil))))))) (sRet (eC (.bl false))) sNext)
  (t_is_quotient_1))
theorem oEq_tt0 {ds : List D} {S : Sto} {Q : DK} {a : List Int} (h : ds = a.map D.int) : oEq (.tup ds) (.tup []) S Q = Q (.bl (decide (a = []))) S := by subst h; exact oEq_p0
theorem bools_map {f : D → Bool} (l : List D) : bools (l.map fun d => D.bl (f d)) = some (l.map f) := by
  induction l with
  | nil => rfl
  | cons x l ih =>
    show Option.map (fun bs => f x :: bs) (bools (l.map fun d => D.bl (f d))) = _
    rw [ih]
    rfl
theorem all_map (l : List D) (f : D → Bool) : (l.map f).all id = l.all f := by induction l with
  | nil => rfl
  | cons x l ih => rw [List.map_cons, List.all_cons, List.all_cons, ih]; rfl
/-- what both looks at a polynomial do behind the first test -/
def polyTail : DS := sRet (eOrV (eBin oEq (eVar 0) (eTup aNil)) (eBin oNe (eBin oIx (eVar 0) (eUn oNeg (eC (.int 1)))) (eC (.int 0))))
theorem poly_end {EX : EXK} {S : Sto} {Q : DK} {a : List Int} {o1 : Option D} (h : ∀ b : Bool, (b = true ↔ PolyD (PT a)) → Q (.bl b) S) {S' : Sto} (sub : Sub S S') :
    polyTail EX (bodyEnds Q) [some (PT a), o1] S' := by
  unfold polyTail
  walk_at "dl"
  refine ⟨sz0, ?_⟩
  by_cases e0 : a = []
  · subst e0
    rw [if_pos rfl]
    exact ⟨S, sub, h true ⟨fun _ => ⟨[], rfl, trim_nil⟩, fun _ => rfl⟩⟩
  · rw [if_neg e0, ix_lastI e0]
    walk_at "dl"
    refine ⟨S, sub, h _ ?_⟩
    rw [polyD_pt]
    simp [Trim]
/-- both looks, the items' test being te -/
theorem poly_look {te : DE} {S : Sto} {Q : DK} {E : Addr → Sto → Prop} {d : D} (k : Kn1 S d) (h : ∀ b : Bool, (b = true ↔ PolyD d) → Q (.bl b) S)
    (ht : ∀ (e : D) (S' : Sto) (Q' : DK), Kn S' e → Q' (.bl (isW e)) S' → te EX0 [none, some e] S' Q') (hv : ∀ (o0 : Option D) (e : D) (S' : Sto) (Q' : DK), te EX0 [none, some e] S' Q' → te EX0 [o0, some e] S' Q') :
    sSeq (sIf (tOrD (tNotD (tVal (eB oIsi (aCons (eVar 0) (aCons (eC (.ty "tuple")) aNil))))) (tNotD (tVal (eB oAll (aCons (eLc (iTupD (eVar 0)) (dName 1) tYesD te [1]) aNil))))) (sRet (eC (.bl false))) sNext) polyTail (bodyEX E) (bodyEnds Q) [some d, none] S := by
  obtain ⟨k, kl, ki⟩ := k
  walk_at "dl"
  rw [isi_ktup k]
  by_cases c : tupB d = true
  · obtain ⟨es, rfl⟩ : ∃ es, d = .tup es := by cases d <;> first | (cases c; done) | exact ⟨_, rfl⟩
    rw [c]
    walk_at "dl"
    intro p np
    refine lc_map (f := fun d => .bl (isW d)) es [] (fun _ => trivial) (by simp only [List.length_nil, Nat.zero_add]; exact Nat.le_trans kl (by decide)) (fun d hd acc' Q' q => ?_) ?_
    · exact hv _ d _ _ (ht d _ _ ((ki d hd).sup (o := .lst acc') np) q)
    · rw [List.nil_append]
      refine ⟨_, _, .inl sup_same, bools_map es, ?_⟩
      rw [all_map]
      by_cases c2 : es.all isW = true
      · rw [c2]
        walk_at "dl"
        obtain ⟨a, rfl⟩ := ints_of c2
        exact poly_end h (Sub.new np)
      · simp only [Bool.not_eq_true] at c2
        rw [c2]
        walk_at "dl"
        exact ⟨S, Sub.new np, h false ⟨fun z => absurd z (by decide), fun z => absurd z (not_polyD (d := .tup es) (.inr c2))⟩⟩
  · simp only [Bool.not_eq_true] at c
    rw [c]
    walk_at "dl"
    exact ⟨S, Sub.refl S, h false ⟨fun z => absurd z (by decide), fun z => absurd z (not_polyD (.inl c))⟩⟩
theorem sem_is_poly : ∀ ds S Q E, sp_polyD ds S Q E → t_is_poly (bodyEX E) (bodyEnds Q) (dstart ["thing", "one"] ds) S := by
  rintro ds S Q E ⟨d, rfl, k, h⟩
  refine poly_look k h (fun e S' Q' ke q => ?_) fun o0 e S' Q' q => q
  walk_at "dl"
  rw [isi_kint ke]
  rw [← isW_eq] at q
  by_cases c2 : intB e = true
  · rw [c2] at q ⊢
    walk_at "dl"
    rw [isi_kbool ke]
    exact q
  · simp only [Bool.not_eq_true] at c2
    rw [c2] at q ⊢
    walk_at "dl"
    exact q
/-- ahead of a look at a quotient's form: the four first tests -/
theorem quot_look {tail : DS} {S : Sto} {Q : DK} {E : Addr → Sto → Prop} {d : D} (k : Kn2 S d) (h : ∀ b : Bool, (b = true ↔ QuoD d) → Q (.bl b) S)
    (ht : ∀ u v, d = QT u v → Trim u → Trim v → tail (bodyEX E) (bodyEnds Q) [some (QT u v)] S) :
    sSeq (sIf (tOrD (tNotD (tVal (eB oIsi (aCons (eVar 0) (aCons (eC (.ty "tuple")) aNil))))) (tOrD (tVal (eBin oNe (eB oLen (aCons (eVar 0) aNil)) (eC (.int 2)))) (tOrD (tNotD (tVal (eCall sp_polyD [] (aCons (eBin oIx (eVar 0) (eC (.int 0))) aNil)))) (tNotD (tVal (eCall sp_polyD [] (aCons (eBin oIx (eVar 0) (eC (.int 1))) aNil))))))) (sRet (eC (.bl false))) sNext) tail (bodyEX E) (bodyEnds Q) [some d] S := by
  obtain ⟨k, kl, ki⟩ := k
  have no : (¬QuoD d) → ∃ S0, Sub S0 S ∧ Q (.bl false) S0 := fun n => ⟨S, Sub.refl S, h false ⟨fun z => absurd z (by decide), fun z => absurd z n⟩⟩
  walk_at "dl"
  rw [isi_ktup k]
  by_cases c : tupB d = true
  · obtain ⟨es, rfl⟩ : ∃ es, d = .tup es := by cases d <;> first | (cases c; done) | exact ⟨_, rfl⟩
    rw [c]
    walk_at "dl"
    by_cases l2 : (es.length : Int) = 2
    · rw [if_neg (not_not_intro l2)]
      match es, ki, l2 with
      | [x, y], ki, _ =>
      have kx := ki x List.mem_cons_self
      have ky := ki y (List.mem_cons_of_mem _ List.mem_cons_self)
      have i0 : ix [x, y] 0 = some x := rfl
      have i1 : ix [x, y] 1 = some y := rfl
      rw [i0, i1]
      walk_at "dl"
      refine ⟨_, rfl, kx, fun b hb => ?_⟩
      by_cases px : PolyD x
      · rw [hb.mpr px]
        walk_at "dl"
        refine ⟨_, rfl, ky, fun b' hb' => ?_⟩
        by_cases py : PolyD y
        · rw [hb'.mpr py]
          walk_at "dl"
          obtain ⟨u, rfl, tu⟩ := px
          obtain ⟨v, rfl, tv⟩ := py
          exact ht u v rfl tu tv
        · have : b' = false := by cases b' with
            | false => rfl
            | true => exact absurd (hb'.mp rfl) py
          rw [this]
          walk_at "dl"
          refine no ?_
          rintro ⟨u, v, e, f⟩
          have e1 : [x, y] = [PT u, PT v] := by injection e
          rw [List.cons.injEq, List.cons.injEq] at e1
          exact py ⟨v, e1.2.1, f.tb⟩
      · have : b = false := by cases b with
          | false => rfl
          | true => exact absurd (hb.mp rfl) px
        rw [this]
        walk_at "dl"
        refine no ?_
        rintro ⟨u, v, e, f⟩
        have e1 : [x, y] = [PT u, PT v] := by injection e
        rw [List.cons.injEq, List.cons.injEq] at e1
        exact px ⟨u, e1.1, f.tt⟩
    · rw [if_pos l2]
      refine no ?_
      rintro ⟨u, v, e, f⟩
      have e1 : es = [PT u, PT v] := by injection e
      rw [e1] at l2
      exact l2 rfl
  · simp only [Bool.not_eq_true] at c
    rw [c]
    walk_at "dl"
    refine no ?_
    rintro ⟨u, v, rfl, f⟩
    cases c
theorem sem_is_quotient : ∀ ds S Q E, sp_isQD ds S Q E → t_is_quotient (bodyEX E) (bodyEnds Q) (dstart ["thing"] ds) S := by
  rintro ds S Q E ⟨d, rfl, k, sm, h⟩
  refine quot_look k h fun u v e tu tv => ?_
  subst e
  have s := sm u v rfl tu tv
  unfold t_is_quotient_1
  walk_at "dl"
  refine ⟨sz0, ?_⟩
  by_cases nv : v = []
  · rw [if_pos nv]
    exact ⟨S, Sub.refl S, h false ⟨fun z => absurd z (by decide), fun ⟨u', v', e, f⟩ => absurd ((qt_inj e).2 ▸ nv) f.nb⟩⟩
  · rw [if_neg nv, ix_lastI nv]
    have no : (¬QForm u v) → ∃ S0, Sub S0 S ∧ Q (.bl false) S0 := fun n => ⟨S, Sub.refl S, h false ⟨fun z => absurd z (by decide), fun ⟨u', v', e, f⟩ => by
      obtain ⟨rfl, rfl⟩ := qt_inj e
      exact absurd f n⟩⟩
    walk_at "dl"
    by_cases c1 : v.getLastD 1 < 0
    · rw [if_pos c1]
      refine no fun f => ?_
      have := f.pos
      omega
    · rw [if_neg c1]
      by_cases c2 : gcdI (contI 0 u) (contI 0 v) = 1
      · rw [if_neg (not_not_intro c2)]
        unfold t_is_quotient_2
        walk_at "dl"
        refine ⟨tu, tv, s, fun g ok => ⟨S, Sub.refl S, h _ ?_⟩⟩
        have q := qform_iff tu tv nv ok.gcd
        have tv0 : v.getLastD 1 ≠ 0 := tv
        rw [decide_eq_true_eq]
        simp only [List.length_map]
        constructor
        · intro z
          exact ⟨u, v, rfl, q.mpr ⟨by omega, c2, by omega⟩⟩
        · rintro ⟨u', v', e, f⟩
          obtain ⟨rfl, rfl⟩ := qt_inj e
          have := (q.mp f).2.2
          omega
      · rw [if_pos c2]
        refine no fun f => ?_
        have ig := f
        have cc := (qform_iff tu tv nv (g := [1]) ⟨plain_one', one_dv u, one_dv v, fun d p q => f.prim d p q⟩).mp f
        exact c2 cc.2.1
end DL
end L2

/-! LX: an exception that leaves from inside a list comprehension; try .. except X: return None. -/
namespace L2
namespace DL
open PySem PySem.Spec PyProof.Rows
/-- behind a comprehension's block, the block's own environment in sight -/
def outPost (M : Model) (A : Around) (E : Value → Shared → Prop) (Q : Value → Shared → Prop) (acc : Value) (ce : PySem.Env) (r : Result) (s' : Shared) : Prop :=
  ∃ m, s'.heap.Ns ce.locals m ∧ ∀ h', Heap.SameBut ce.locals s'.heap h' → match r with
    | .ok _ => Q acc { s' with heap := h' }
    | .error x => wpAny M A (passOn "comprehension.variables-let-go" x ce : Sem Value) (fun _ _ => False) E { s' with heap := h' }
theorem comp_out {M : Model} {A : Around} {E : Value → Shared → Prop} {s : Shared} {env : PySem.Env} {e : Expr} {scope : Scope} {pos : Pos} {newAcc first : Sem Value} {g : Comprehension} {gs : List Comprehension} {cl : List (Str × Addr)} {Q : Value → Shared → Prop}
    (hcl : clausesOf e = g :: gs) (hs : ∀ x, foldedSetIterable g.iter env x = pure x) (hclos : closureFor scope env = pure cl) (hkind : scope.kind = .function) (hnames : ∀ x ∈ scope.names, x.2 = .local → scope.names.lookup x.1 = some .local)
    (h : wpAny M A first (fun x s₁ => wpAny M A (pyIter x) (fun it s₂ => wpAny M A newAcc (fun acc s₃ => wpAny M A (newFunctionEnv scope env.globals cl [] env.qual none .none (some env)) (fun cenv s₄ =>
      codeAny M A (.compStart e 0 it acc { cenv with scope := relabel scope env }) (outPost M A E Q acc { cenv with scope := relabel scope env }) s₄) E s₃) E s₂) E s₁) E s) :
    wpAny M A (comprehension e scope env pos newAcc false first none) Q E s := by
  unfold comprehension
  rw [hclos, hcl]
  refine wpAny_bind (wpAny_mono h (fun x s₁ h₁ => ?_) fun _ _ z => z)
  refine wpAny_bind (wpAny_standAt (wpAny_bind (wpAny_of_eq (hs x) (wpAny_bind (wpAny_holding (wpAny_mono h₁ (fun it s₂ h₂ => ?_) fun _ _ z => z))))))
  refine wpAny_standIf (wpAny_bind (wpAny_mono h₂ (fun acc s₃ h₃ => ?_) fun _ _ z => z))
  refine wpAny_bind (wpAny_pure (wpAny_bind (wpAny_mono h₃ (fun cenv s₄ h₄ => ?_) fun _ _ z => z)))
  dsimp only
  have hv : ∀ x ∈ (scope.names.filter fun x => (x.2 == .local || x.2 == .cell) && x.1 != (".0" : Str)).reverse, x.2 = .local → PySem.Env.kindOf { cenv with scope := relabel scope env } x.1 = some .local := fun x hx hl =>
    lookup_relabel_local (hnames x (List.mem_filter.mp (List.mem_reverse.mp hx)).1 hl)
  refine wpAny_holding (wpAny_bind (wpAny_attempt (wpAny_holding (wpAny_run (codeAny_mono h₄ fun r s' hr => ?_)))))
  obtain ⟨m, hn, hr⟩ := hr
  cases r with
  | ok f => exact wpAny_bind (wpAny_holding (wpAny_comp_letGo (cenv := { cenv with scope := relabel scope env }) hkind _ s' m hv hn fun h' m' _ hs' => wpAny_pure (hr h' hs')))
  | error x => exact wpAny_bind (wpAny_holding (wpAny_comp_letGo (cenv := { cenv with scope := relabel scope env }) hkind _ s' m hv hn fun h' m' _ hs' => wpAny_mono (hr h' hs') (fun _ _ f => f.elim) fun _ _ y => y))
/-- the frame is noted, whatever the flight that stood there -/
theorem note_in {M : Model} {A : Around} {E : Value → Shared → Prop} {s : Shared} {env ce : PySem.Env} {outer : List PySem.Env} {L C a : Addr} {Z : Obj → Prop} {B : Heap} {Q : Unit → Shared → Prop} (hZ : HandSPX.Steady Z) (hfr : A.frames = some (env :: outer)) (hf : env.frame = some L) (hc : ce.frame = env.frame) (hCL : C ≠ L)
    (x : Sky B (env :: outer) a Z C s.heap) (hQ : ∀ h', HandSPX.HeldZ B (env :: outer) a Z L h' → s.heap.UpToSlots h' → Q () { s with heap := h' }) : wpAny M A (noteFrame (.ref a) ce) Q E s := by
  have same : noteFrame (.ref a) ce = noteFrame (.ref a) env := by
    unfold noteFrame PySem.frameOf
    rw [hc]
  rw [same]
  rcases x with ⟨hB, hn, hl, oe, vs, he, hz, hd, h1⟩ | fl | ⟨hB, hn, hl, oe, vs, T, oT, ts, he, hz, hd, h1, hnT, hTe, hT, hdT, h3⟩
  · exact HandSPX.look_newZ hZ hfr hl hf he hB hn hd h1 hz hQ
  · exact HandSPX.looks_onZ hZ hfr hf fl hQ
  · -- another flight
    have isT : ∀ b o, s.heap.get? b = some o → (∀ vs, o.data ≠ .fields vs) → b ≠ T := fun b o e nf z => by
      subst z
      rw [hT] at e
      cases e
      exact nf _ hdT
    have off : ∀ b, b ≠ T → (s.heap.update T (Obj.mapFields (·.setIfInBounds 3 Value.none))).get? b = s.heap.get? b := fun b hb => Heap.get?_update_other _ _ (Ne.symm hb)
    unfold noteFrame
    simp only [hf]
    refine wpAny_bind (wpAny_field he hd h1 ?_)
    rw [if_pos (show (Value.ref T != Value.none) = true from by simp)]
    refine wpAny_bind (wpAny_field hT hdT h3 ?_)
    rw [if_neg (show ¬ ((rawInt C == rawInt L) = true) from by
      intro z
      have z2 : (rawInt C) = (rawInt L) := eq_of_beq z
      unfold rawInt at z2
      injection z2 with z3 _
      exact hCL (Int.ofNat.inj z3))]
    refine wpAny_bind (wpAny_setField hT hdT (Array.getElem?_eq_some_iff.mp h3).1 ?_)
    refine HandSPX.wpAny_entryZ hZ hfr (hl.of_keeps fun b o e nf => ⟨o, (off b (isT b o e nf)).trans e, rfl⟩) hf ((off a (Ne.symm hTe)).trans he) (fun b o e => (off b fun z => by rw [z, hnT] at e; cases e).trans (hB b o e)) hn hd (Array.getElem?_eq_some_iff.mp h1).1 hz fun h' hN => ?_
    obtain ⟨x1, x2, x3, x4⟩ := hN
    exact hQ h' ⟨x1, hn, x2, x3⟩ fun b o e nf => x4 b o ((off b (isT b o e nf)).trans e) nf
/-- frames off C -/
theorem frames_off {B h h' : Heap} {C : Addr} (sb : Heap.SameBut C h h') : ∀ {l : List PySem.Env}, h.FunFrames B l → C ∉ frs l → h'.FunFrames (PySem.W.hideAll B [C]) l
  | [], _, _ => trivial
  | env :: l, ⟨hk, ⟨L, o, hf, hb, ho, hd⟩, hr⟩, hC => by
    have hL : L ≠ C := fun z => hC (List.mem_filterMap.mpr ⟨env, List.mem_cons_self, by rw [hf, z]⟩)
    refine ⟨hk, ⟨L, o, hf, ?_, (sb.2 L hL).trans ho, hd⟩, frames_off sb hr fun z => hC ?_⟩
    · cases q : (PySem.W.hideAll B [C]).get? L with
      | none => rfl
      | some o' =>
        have := PySem.W.of_hideAll _ q
        rw [hb] at this; cases this
    · obtain ⟨e, he, q⟩ := List.mem_filterMap.mp z
      exact List.mem_filterMap.mpr ⟨e, List.mem_cons_of_mem _ he, q⟩
theorem held_off {B h h' : Heap} {C a L : Addr} {Z : Obj → Prop} {l : List PySem.Env} (sb : Heap.SameBut C h h') (hC : C ∉ frs l) {o : Obj} (hB : B.get? C = some o) (x : HandSPX.HeldZ B l a Z L h) : HandSPX.HeldZ (PySem.W.hideAll B [C]) l a Z L h' := by
  obtain ⟨k1, k2, k3, oe, vs, T, oT, ts, he, hz, hd, h1, hnT, hTe, hT, hdT, h3⟩ := x
  have hid : ∀ b, B.get? b = none → (PySem.W.hideAll B [C]).get? b = none := fun b hb => by
    cases q : (PySem.W.hideAll B [C]).get? b with
    | none => rfl
    | some o' =>
      have := PySem.W.of_hideAll _ q
      rw [hb] at this; cases this
  have aC : a ≠ C := fun z => by rw [z, hB] at k2; cases k2
  have TC : T ≠ C := fun z => by rw [z, hB] at hnT; cases hnT
  refine ⟨fun b o' e => ?_, hid _ k2, frames_off sb k3 hC, oe, vs, T, oT, ts, (sb.2 a aC).trans he, hz, hd, h1, hid _ hnT, hTe, (sb.2 T TC).trans hT, hdT, h3⟩
  have bC : b ≠ C := fun z => by
    subst z
    rw [PySem.W.hideAll_none [b] List.mem_cons_self] at e; cases e
  exact (sb.2 b bC).trans (k1 b o' (PySem.W.of_hideAll _ e))
section
variable {X : Cx} {W : WX} {pins : List (Addr × Obj)} {σ : St} {H3 : Hp} {s3 s' : Shared} {scope : Scope} {ce : PySem.Env} {fp : List Addr} {pn : List (Addr × Obj)} {xe : Value → Shared → Prop} {u acc : Value} {Qf : Value → Shared → Prop} {E₁ : Value → Shared → Prop}
/-- the block's exception is the def's -/
theorem xe_out (hs : X.stack = X.env :: X.outer) (hf : X.env.frame = some X.env.locals) (hce : ce.frame = X.env.frame) (hC : ce.locals = s3.heap.objs.size) (tk : Takes X W) (I3 : Inv X pins σ H3 s3) (f3 : ∀ b ∈ fp, FpOk X pins H3 b ∧ b < s3.heap.objs.size)
    (x : XE ((X.blk s3 H3 scope ce fp).tr pn xe) (fun c d _ H => W c d σ H) u s') : wpAny (model X.prog X.w) X.A (noteFrame u ce) (fun _ s'' => outPost (model X.prog X.w) X.A X.xe Qf acc ce (.error u) s'') E₁ s' := by
  obtain ⟨a, B, sI, pins', σ', H', cls, d, rfl, J, nb, up, sky, na, os, ag, w⟩ := x
  have hfr : X.A.frames = some (X.env :: X.outer) := by rw [I3.ok.frames, hs]
  have sky' : Sky B (X.env :: X.outer) a (Zc cls d) ce.locals s'.heap := by rw [← hs]; exact sky
  have nC : H3 ce.locals = none := by rw [hC]; exact I3.hok.fresh (Nat.le_refl _)
  have fC := I3.fpOk (b := ce.locals) (by rw [hC]; exact Nat.le_refl _) nC
  have CF : ce.locals ∉ frs X.stack := fun hm => by
    rcases List.mem_cons.mp (I3.stkSub _ hm) with z | z
    · exact fC.2.1 z
    · exact fC.2.2.1 z
  have nb' : ∀ b o, sI.heap.get? b = some o → b ∉ frs X.stack → B.get? b = some o := nb
  obtain ⟨m, hm, _⟩ := J.loc
  have hm : sI.heap.Ns ce.locals m := hm
  obtain ⟨oC, es, ep, eC, dC⟩ := id hm
  have hBC := nb' _ _ eC CF
  have off : ∀ b o, s3.heap.get? b = some o → b ∉ [ce.locals] := fun b o e z => by
    have h1 := Heap.lt_size e
    rw [List.mem_singleton.mp z, hC] at h1
    exact Nat.lt_irrefl _ h1
  have offG : ∀ b o, (PySem.W.hideAll sI.heap [ce.locals]).get? b = some o → b ∉ [ce.locals] := fun b o e z => by
    rw [PySem.W.hideAll_none _ z] at e; cases e
  refine note_in Zc.steady hfr hf hce fC.2.1 sky' fun h1 hh up1 => ⟨m, up1.ns (up.ns hm), fun h2 sb => ?_⟩
  have hh2 := held_off sb (by rw [← hs]; exact CF) hBC hh
  obtain ⟨_, _, _, oe, vs, T, oT, ts, he, hz, hd, h1', _⟩ := id hh2
  show wpAny _ _ (passOn "comprehension.variables-let-go" (.ref a) ce : Sem Value) _ _ _
  unfold PySem.passOn
  refine wpAny_bind (wpAny_field he hd h1' ?_)
  rw [if_neg (show ¬ ((Value.ref T == Value.none) = true) from by simp)]
  have base : Un (frs X.stack) fp H3 H' s3.heap sI.heap := J.base
  have free : H' ce.locals = none := J.free
  have hokG : HOk X.prog X.w H' (PySem.W.hideAll sI.heap [ce.locals]) := fun b o q => (J.hok b o q).stay (fun c v hc r => PySem.W.hideAll_get _ r fun z => by
    rw [List.mem_singleton.mp z] at hc
    rcases hc with hc | hc
    · rw [← hc, free] at q; cases q
    · rw [free] at hc; cases hc) (fun _ z => z) fun _ _ z => z
  have IG : Inv X pins σ H' { sI with heap := PySem.W.hideAll sI.heap [ce.locals] } := I3.call' (ch := fp) J.os ⟨fun b o e n hb hx => PySem.W.hideAll_get _ (base.keep b o e n hb hx) (off b o e), fun b o e n hb hx => by
      obtain ⟨sl, q⟩ := base.slot b o e n hb hx
      exact ⟨sl, PySem.W.hideAll_get _ q (off b o e)⟩, base.free, fun b o e hx => by
      obtain ⟨o', q⟩ := base.there b o e hx
      exact ⟨o', PySem.W.hideAll_get _ q (off b o e)⟩, base.tups, base.frzs, base.tbls⟩ hokG J.bare fun b hb => ⟨(f3 b hb).1.2.2.2.1, (f3 b hb).1.2.1, (f3 b hb).1.2.2.2.2.1, (f3 b hb).1.2.2.2.2.2⟩
  have fin : wpAny (model X.prog X.w) X.A (setFlight (.ref a) ce.frame) (fun _ s4 => wpAny (model X.prog X.w) X.A (throw (.ref a) : Sem Value) (fun _ _ => False) X.xe s4) X.xe { s' with heap := h2 } := by
    rw [hce, hf]
    refine HandSPX.setFlight_onZ hh2 fun h3 hh3 up3 => wpAny_throw (tk _ _ ?_)
    refine ⟨a, _, _, pins, σ, H', cls, d, rfl, IG, fun b o e hb => PySem.W.hideAll_get _ (nb' b o (PySem.W.of_hideAll _ e) hb) (offG b o e), fun b o e nf => ?_, .inr (.inr (by rw [hs]; exact hh3)), na, os, ag, w⟩
    have bC : b ≠ ce.locals := fun z => offG b o e (by rw [z]; exact List.mem_cons_self)
    obtain ⟨s1, q1⟩ := up b o (PySem.W.of_hideAll _ e) nf
    obtain ⟨s2, q2⟩ := up1 b _ q1 nf
    rw [← sb.2 b bC] at q2
    obtain ⟨s5, q3⟩ := up3 b { o with slots := s2 } q2 nf
    exact ⟨s5, q3⟩
  first
    | exact wpAny_bind (wpAny_pure (wpAny_bind fin))
    | exact wpAny_bind fin
end
section
variable {X : Cx}
/-- [elt for target in iter], an item may raise: te by the def's slots -/
theorem pe_lcX {elt tg iter : Expr} {scope : Scope} {own : List (Str × Nat)} {pos : Pos} {wi : TI} {g : TG} {te : St → TE} {W : WX} (hs : X.stack = X.env :: X.outer) (hf : X.env.frame = some X.env.locals) (tk : Takes X W) (hc : X.calm = true) (hN : X.N.Nodup) (hi : PI X tg iter wi) (ok : BlkOk X.N X.env.scope scope own)
    (hg : ∀ (s : Shared) (H : Hp) (C : Addr) (cl : List (Str × Addr)) (fp : List Addr), PG (X.blk s H scope (compEnvC scope cl C X.env) fp) tg g)
    (he : ∀ (σ : St) (s : Shared) (H : Hp) (C : Addr) (cl : List (Str × Addr)) (fp : List Addr) (pn : List (Addr × Obj)) (xe : Value → Shared → Prop), Takes ((X.blk s H scope (compEnvC scope cl C X.env) fp).tr pn xe) (fun c d _ H => W c d σ H) → PE ((X.blk s H scope (compEnvC scope cl C X.env) fp).tr pn xe) elt (te σ))
    (hfs : ∀ x, foldedSetIterable iter X.env x = pure x := by intro _; rfl) : PE X (.ListComp elt [⟨tg, iter, [], 0⟩] scope pos) (fun σ H Q => tLc wi g tYes (te σ) (own.map (·.2)) σ H Q) := by
  refine ⟨fun pins s σ H Q I h => ?_⟩
  rw [eval_ListComp]
  have free : ∀ y ∈ scope.names, y.2 = .free → ∃ c, X.env.cells.lookup y.1 = some c := fun y hy e => (ok.free y hy e).elim (fun k => I.ok.has _ (.inl k)) fun k => I.ok.has _ (.inr k)
  refine comp_out (gs := []) rfl hfs (closure_ok free) ok.kind (fun y hy e => by rw [ok.uniq y hy, e]) (thn (hi.run pins s σ H _ I h) fun xv s1 hx => thn hx fun itv s2 h2 => ?_)
  obtain ⟨it, fp, tn, J, H2, rfl, I2, T, st2, f2, q⟩ := h2
  refine wpAny_newObj_type (newEnv_comp ?_) (by show 0 ≤ sizeLine; decide)
  generalize hD : s2.heap.objs.size = D
  obtain ⟨WW, ⟨m0, w0⟩, turn⟩ := q D (I2.hok.fresh (Nat.le_of_eq hD))
  -- the new list
  generalize hs3 : ({ s2 with heap := s2.heap.push { cls := .type "list", data := .seq ([] : List Value).toArray } } : Shared) = s3
  have h3 : s3.heap = s2.heap.push { cls := .type "list", data := .seq ([] : List Value).toArray } := by rw [← hs3]
  have k3 : ∀ b o, s2.heap.get? b = some o → s3.heap.get? b = some o := fun b o e => by rw [h3]; exact Heap.get?_push_of_some _ e
  have I3 : Inv X pins σ (upd H2 D (.lst [])) s3 := by
    rw [← hs3]
    refine I2.laid (t' := s2.toks) (fun b o e => Heap.get?_push_of_some _ e) (Nat.le_of_eq hD) ⟨Nat.zero_le _, [], 0, .nil, ?_⟩
    rw [← hD]
    exact Heap.get?_push_size _ rfl
  have f3 : ∀ b ∈ fp, FpOk X pins (upd H2 D (.lst [])) b ∧ b < s3.heap.objs.size := fun b hb => by
    obtain ⟨o, e, _⟩ := T.obj _ _ st2 b hb
    have lt := Heap.lt_size e
    refine ⟨⟨?_, (f2 b hb).2⟩, by rw [h3, Heap.size_push]; exact Nat.lt_succ_of_lt lt⟩
    rw [upd_ne (by rw [← hD]; exact Nat.ne_of_lt lt)]
    exact (f2 b hb).1
  have st3 : tn 0 s3.heap := T.keep _ _ _ st2 fun b _ o e => k3 b o e
  have I4 := block_start I3 ok hN f3
  have pg := hg s3 (upd H2 D (.lst [])) s3.heap.objs.size (cellsFrom (s3.heap.objs.size + 1) scope.names (cloFrom X.env.cells scope.names [])) fp
  have pe := he σ s3 (upd H2 D (.lst [])) s3.heap.objs.size (cellsFrom (s3.heap.objs.size + 1) scope.names (cloFrom X.env.cells scope.names [])) fp
  have nfp : ∀ b ∈ fp, (upd H2 D (.lst [])) b = none := fun b hb => (f3 b hb).1.1
  show codeAny _ _ (.compStart (.ListComp elt [⟨tg, iter, [], 0⟩] scope pos) 0 (.ref it) (.ref D) (compEnvC scope (cellsFrom (s3.heap.objs.size + 1) scope.names (cloFrom X.env.cells scope.names [])) s3.heap.objs.size X.env))
    (outPost (model X.prog X.w) X.A X.xe _ (.ref D) (compEnvC scope (cellsFrom (s3.heap.objs.size + 1) scope.names (cloFrom X.env.cells scope.names [])) s3.heap.objs.size X.env)) { s3 with heap := pushCells (s3.heap.push { cls := .type "dict", data := .dict #[] }) scope.names }
  have cL0 : (compEnvC scope (cellsFrom (s3.heap.objs.size + 1) scope.names (cloFrom X.env.cells scope.names [])) s3.heap.objs.size X.env).locals = s3.heap.objs.size := rfl
  have cF0 : (compEnvC scope (cellsFrom (s3.heap.objs.size + 1) scope.names (cloFrom X.env.cells scope.names [])) s3.heap.objs.size X.env).frame = X.env.frame := rfl
  generalize compEnvC scope (cellsFrom (s3.heap.objs.size + 1) scope.names (cloFrom X.env.cells scope.names [])) s3.heap.objs.size X.env = ce at I4 pg pe cL0 cF0 ⊢
  generalize upd H2 D (.lst []) = H3 at I3 I4 pg pe w0 nfp f3
  generalize hs4 : ({ s3 with heap := pushCells (s3.heap.push { cls := .type "dict", data := .dict #[] }) scope.names } : Shared) = s4 at I4 ⊢
  have st4 : tn 0 s4.heap := T.keep _ _ _ st3 fun b _ o e => by rw [← hs4]; exact pushCells_keeps _ _ _ _ (Heap.get?_push_of_some _ e)
  have stat : ∀ {σ' : St} {H' : Hp} {s' : Shared}, Inv (X.blk s3 H3 scope ce fp) [] σ' H' s' → (∀ b ∈ fp, H' b = none) → ∀ b ∈ fp, FpOk (X.blk s3 H3 scope ce fp) [] H' b := fun {σ' H' s'} I' hn b hb =>
    ⟨hn b hb, (I'.ok.exf b hb).1, I'.ok.exfs b hb, .inl hb, fun x c e => (I'.ok.exf b hb).2 x c e, fun p hp => absurd (show p ∈ ([] : List (Addr × Obj)) ++ [] from hp) (by simp)⟩
  refine codeAny_compStart_list ?_ (T.self X.A 0 _ _ _ st4 ?_) <;> skip
  all_goals skip
  all_goals
    refine compLoop_any (fun n s' => ∃ i H', Inv (X.blk s3 H3 scope ce fp) [] (wipe σ (own.map (·.2))) H' s' ∧ tn i s'.heap ∧ (∀ b ∈ fp, H' b = none) ∧ WW i n H') ?_ m0 ⟨0, H3, I4, st4, nfp, w0⟩
    rintro n s5 ⟨i, H5, I5, st5, n5, w5⟩
    rcases turn i n H5 w5 with ⟨stop, qq⟩ | ⟨go, Nx, hNx, step⟩
    · refine thnF (T.done (X.blk s3 H3 scope ce fp) rfl rfl rfl hc i [] s5 _ H5 (fun _ _ => False) I5 (stat I5 n5) st5 stop) fun r s6 ⟨hr, I6⟩ => ?_
      subst hr
      have I7 : Inv X pins σ H5 s6 := I3.call' (ch := fp) I6.os I6.base I6.hok I6.bare fun b hb => ⟨(f3 b hb).1.2.2.2.1, (f3 b hb).1.2.1, (f3 b hb).1.2.2.2.2.1, (f3 b hb).1.2.2.2.2.2⟩
      obtain ⟨m, hn, _⟩ := I6.loc
      have nC : H5 ce.locals = none := I6.free
      have fC := I3.fpOk (b := ce.locals) (by rw [cL0]; exact Nat.le_refl _) nC
      refine ⟨m, hn, fun h'' sb => ?_⟩
      obtain ⟨g0, g1, g2, g3, g4, g5⟩ := fC
      exact ⟨.ref D, H5, I7.turned (t' := s6.toks) (fun b o hb e => (sb.2 b hb).trans e) g0 g1 g3 g4 g5, rfl, qq⟩
    · refine thnF (T.item (X.blk s3 H3 scope ce fp) rfl rfl rfl hc i [] s5 _ H5 (fun _ _ => False) I5 (stat I5 n5) st5 go) fun r s6 ⟨u, hr, h6⟩ => ?_
      subst hr
      refine thnF h6 fun _ s7 ⟨x, H7, I7, r7, y7, st7, n7⟩ => ?_
      refine thnF (pg.run _ s7 _ H7 x u _ (I7.pinned (stat I7 n7) (T.obj _ _ st7)) r7 (step x H7 y7)) fun _ s8 ⟨σ8, H8, I8, hw8, q8⟩ => ?_
      refine thnF ((pts_nil (X := X.blk s3 H3 scope ce fp)).run _ s8 σ8 H8 _ I8 q8) fun b s9 ⟨H9, I9, q9⟩ => ?_
      -- the turn's end
      have fin : ∀ {s' : Shared} {H' : Hp}, Inv (X.blk s3 H3 scope ce fp) ([] ++ pinsAt fp s7.heap) σ8 H' s' → Nx H' → ∃ m, m < n ∧ ∃ i H', Inv (X.blk s3 H3 scope ce fp) [] (wipe σ (own.map (·.2))) H' s' ∧ tn i s'.heap ∧ (∀ b ∈ fp, H' b = none) ∧ WW i m H' := fun {s' H'} I' nx => by
        obtain ⟨m', hm, w'⟩ := hNx H' nx
        have pin' : ∀ b ∈ fp, ∀ o, s7.heap.get? b = some o → s'.heap.get? b = some o ∧ H' b = none := fun b hb o e =>
          let z := I'.pin (b, o) (List.mem_append_right _ (List.mem_append_right _ (mem_pinsAt hb e)))
          ⟨z.1, z.2.1⟩
        refine ⟨m', hm, i + 1, H', (I'.unpinned (pins := [])).weak (by rw [← hw8, wipe_length]) (fun j v e => ?_), T.keep _ _ _ st7 fun b hb o e => (pin' b hb o e).1, fun b hb => ?_, w'⟩
        · rw [← hw8] at e
          exact (wipe_some e).1
        · obtain ⟨o, e, _⟩ := T.obj _ _ st7 b hb
          exact (pin' b hb o e).2
      cases b with
      | false =>
        simp only [Bool.false_eq_true, if_false] at q9 ⊢
        exact fin I9 q9
      | true =>
        simp only [if_true] at q9 ⊢
        have run := (pe ((X.blk s3 H3 scope ce fp).pn ++ ([] ++ pinsAt fp s7.heap)) (notedBy (model X.prog X.w) X.A ce fun e s' => outPost (model X.prog X.w) X.A X.xe (EP X pins σ Q) (.ref D) ce (.error e) s') fun u s' xx => xe_out hs hf cF0 cL0 tk I3 f3 xx).run [] s9 σ8 H9 _ (I9.toTry _) q9
        refine thn run fun z s10 ⟨yv, H10, I10, r10, acc, hD10, hz10, nx⟩ => ?_
        exact app_ok (X := X.blk s3 H3 scope ce fp) (I10.ofTry I9.ok) hD10 hz10 r10 fun s11 I11 => fin I11 nx
end
/-- items from ds, the elements' wish about exceptions EX; the new list stands at p -/
def lcInX (G : Sto → Prop) (g : DG) (te : DE) (EX : EXK) (δ : DSt) (p : Addr) : List D → Sto → (Sto → Prop) → Prop
  | [], S, Q => G S ∧ Q S
  | x :: xs, S, Q => G S ∧ g x EX0 δ S fun δ2 S2 => te EX δ2 S2 fun d S4 => ∃ acc, S4 p = some (.lst acc) ∧ acc.length < sizeLine ∧ lcInX G g te EX δ p xs (sup S4 p (.lst (acc ++ [d]))) Q
def eLcX (w : DI) (g : DG) (te : DE) (vs : List Nat) : DE := fun EX δ S Q => w EX δ S fun G ds S1 => ∀ p, S1 p = none → lcInX G g te (fun C _ S => EX C δ S) (dwipe δ vs) p ds (sup S1 p (.lst [])) fun S' => Q (.ref p) S'
theorem lcInX_guard {G : Sto → Prop} {g : DG} {te : DE} {EX : EXK} {δ : DSt} {p : Addr} : ∀ {ds : List D} {S : Sto} {Q : Sto → Prop}, lcInX G g te EX δ p ds S Q → G S
  | [], _, _, h => h.1
  | _ :: _, _, _, h => h.1
section
variable {X : Cx} {elt tg iter : Expr} {scope : Scope} {pos : Pos} {w : DI} {g : DG} {te : DE}
theorem low_lcX {K : PySem.W.Frag} {EX : EXK} {W : WX} {vs : List Nat} : ∀ σ H Q, upE K EX W (eLcX w g te vs) σ H Q → tLc (upI K EX W w) (upGc K vs g) tYes (fun σ' H' Q' => ∃ EX', upE K EX' (fun c d _ H1 => W c d σ H1) te σ' H' Q') vs σ H Q := fun σ H Q ⟨δ, S, Qd, rl, rs, h, q⟩ => by
  refine ⟨δ, S, _, rl, rs, h, fun G ds S1 J H1 h1 ⟨gg, Y, wk, hG, hY⟩ rs1 k1 P np => ?_⟩
  have h2 := h1 P (rs1.fresh np)
  refine lc_it (g := upGc K vs g) (tt := tYes) (te := fun σ' H' Q' => ∃ EX', upE K EX' (fun c d _ H1 => W c d σ H1) te σ' H' Q') (vs := vs) (σ := σ) wk (fun i H' => ∃ S', lcInX G g te (fun C _ S => EX C δ S) (dwipe δ vs) P (ds.drop i) S' (fun S' => Qd (.ref P) S') ∧ RelS K S' H' ∧ Kept H1 H') ⟨_, h2, rs1.newL np .nil, Kept.new np⟩ ?_ ?_ ?_
  · rintro i H' hi ⟨S', q', rs', k'⟩
    exact hG S' H' rs' k' (lcInX_guard q')
  · rintro i v H2 H3 hi ⟨S2, q2, rs2, k2⟩ y
    have g2 := lcInX_guard q2
    obtain ⟨d, e, r3, rs3, k3⟩ := hY i S2 H2 v H3 hi y rs2 k2 g2
    have hi' : i < ds.length := hi
    have ed : ds[i] = d := by
      rw [List.getElem?_eq_getElem hi'] at e
      exact Option.some.inj e
    rw [List.drop_eq_getElem_cons hi', ed] at q2
    have kk := (k1.trans k2).trans k3
    refine ⟨dwipe δ vs, S2, d, _, (rl.mono kk).blk vs, rs3, r3, q2.2, fun δ4 S4 σ4 H4 h4 rl4 rs4 k4 w4 => ⟨w4.trans (wipe_idem σ vs), ?_⟩⟩
    unfold tYes
    dsimp only
    rw [if_pos (rfl : true = true)]
    refine ⟨(fun C _ S => EX C δ S), δ4, S4, _, ⟨rl4.r, fun C δ1 S5 σ5 H5 hx r5 rs5 k5 => ?_⟩, rs4, h4, fun d6 S6 v6 H6 ⟨acc, e6, hz, h6⟩ r6 rs6 k6 => ?_⟩
    · exact rl.x C δ S5 σ H5 hx (rl.r.mono ((kk.trans k4).trans k5)) rs5 ((kk.trans k4).trans k5)
    · obtain ⟨xs, ex, rx⟩ := rs6 P _ e6
      exact ⟨xs, ex, by rw [rx.len]; exact hz, _, h6, rs6.setL ex (rx.append (.one r6)), (((k2.trans k3).trans k4).trans k6).trans (Kept.mut ex nimm_lst)⟩
  · rintro H2 ⟨S2, q2, rs2, k2⟩
    rw [List.drop_length] at q2
    exact q _ S2 _ H2 q2.2 (.ref P) rs2 (k1.trans k2)
theorem ie_lcX (own : List (Str × Nat)) (hc : X.calm = true) (hN : X.N.Nodup) (hi : IsI X tg iter w)
    (hg : ∀ q, IsGc (Cx.bk X scope q) (own.map (Prod.snd (α := Str) (β := Nat))) tg g) (he : ∀ q pn xe, IsE (Cx.tr (Cx.bk X scope q) pn xe) elt te) (ok : BlkOk X.N X.env.scope scope own := by exact blkOk_by (by decide +kernel))
    (hfs : ∀ x, foldedSetIterable iter X.env x = pure x := by intro _; rfl) (hs : X.stack = X.env :: X.outer := by rfl) (hf : X.env.frame = some X.env.locals := by rfl) :
    IsE X (.ListComp elt [⟨tg, iter, [], 0⟩] scope pos) (eLcX w g te (own.map (Prod.snd (α := Str) (β := Nat)))) := fun EX W tk =>
  pe_imp (pe_lcX (g := upGc X.K (own.map (Prod.snd (α := Str) (β := Nat))) g) (te := fun σ σ' H' Q' => ∃ EX', upE X.K EX' (fun c d _ H1 => W c d σ H1) te σ' H' Q') hs hf tk hc hN (hi EX W tk) ok (fun s H C cl fp => hg (s, H, C, cl, fp))
    (fun σ s H C cl fp pn xe tkb => ⟨fun pins s' σ' H' Q I ⟨EX', h⟩ => (he (s, H, C, cl, fp) pn xe EX' _ tkb).run pins s' σ' H' Q I h⟩) hfs) (low_lcX (vs := own.map (Prod.snd (α := Str) (β := Nat))))
end
/-- try: b, except one class: return None -/
def sTryN (b : DS) (h : Addr → Bool) : DS := fun _ T δ S => b (fun C _ S' => h C = true ∧ T.rt .non S') T δ S
theorem is_tryN {X : Cx} {x : Str} {cE : Addr} {j : Nat} {body : List Stmt} {h : Addr → Bool} {tb : DS} {np pc pr pos pos' : Pos} (hE : X.mg x = some (.ref cE))
    (hm : ∀ C, h C = true → PySem.W.exmOne X.K (.ref C) (.ref cE) = some true)
    (hb : ∀ (pn : List (Addr × Obj)) (xe : Value → Shared → Prop), PassesOwn (model X.prog X.w) X.A X.env xe → IsB (Cx.tr X pn xe) body tb)
    (hs : X.stack = X.env :: X.outer := by rfl) (hf : X.env.frame = some X.env.locals := by rfl) (hg : Gl X x := by rfl) (hx : (x == ("__debug__" : Str)) = false := by decide) :
    IsS X (.Try body [.ExceptHandler (some (.Name x np)) none [.Return (some (.Constant .none j pc)) pr] pos'] [] [] pos) (sTryN tb h) := fun EX W tk => by
  have main := ps_try_only (x := x) (c := .ref cE) (body := body) (suite := []) (b₀ := .Return (some (.Constant .none j pc)) pr) (np := np) (pos := pos) (pos' := pos')
    (tb := fun Wb T σ H => ∃ (EX' : EXK) (δ : DSt) (S : Sto) (Dd : DEnds), RepL X.K EX' Wb H δ σ ∧ RelS X.K S H ∧ tb EX' Dd δ S ∧ Under X.K EX' Wb H Dd T)
    (ts := fun a cls d T σ H => T.rt .non H) (Wout := W) hs hf ⟨hg, hx, .inl hE⟩ tk ?_ ?_
  · refine ps_imp main fun T σ H ⟨δ, S, Dd, rl, rs, h1, U⟩ => ?_
    have up : ∀ {H' : Hp} {EX' : EXK} {W' : WX} {δ' : DSt} {σ' : St}, Kept H H' → RepL X.K EX' W' H' δ' σ' → RepL X.K EX W H' δ' σ' := fun k' r' => ⟨r'.r, fun C δ S σ H1 a b c e => rl.x C δ S σ H1 a b c (k'.trans e)⟩
    refine ⟨_, δ, S, Dd, ⟨rl.r, fun C δ' S' σ' H' hx' r' rs' k' => ?_⟩, rs, h1, ⟨fun δ' S' σ' H' hq r' rs' k' => U.nx δ' S' σ' H' hq (up k' r') rs' k', fun δ' S' σ' H' hq r' rs' k' => U.bk δ' S' σ' H' hq (up k' r') rs' k', fun δ' S' σ' H' hq r' rs' k' => U.ct δ' S' σ' H' hq (up k' r') rs' k', U.rt⟩⟩
    exact ⟨true, hm C hx'.1, fun _ a na => U.rt .non S' .non H' hx'.2 .non rs' k', fun q => nomatch q⟩
  · intro Wb pn xe tkb hpo
    exact ⟨fun pins s σ H T I ⟨EX', δ, S, Dd, a1, a2, a3, a4⟩ => (hb pn xe hpo EX' Wb tkb).run pins s σ H T I ⟨δ, S, Dd, a1, a2, a3, a4⟩⟩
  · intro a oe cls d pn hz hfd
    exact pss_imp (pss_one (ps_ret (X := X.suite a ((a, oe) :: pn)) pe_non)) fun T σ H h => h
end DL
end L2

/-! QV: quotients as worths at almost every place, their slopes, their sizes. Plain Lean. -/
namespace L2
namespace DL
open PySem PySem.Spec PyProof PyProof.Rows
theorem fb40 (n : Nat) : fbits n 40 < 2 ^ (n + 560) := by
  unfold fbits
  have h := fac40
  rw [Nat.pow_add]
  generalize (2 * 40 + 1) ^ 40 = x at *
  generalize grow2 (2 * 40 + 1) 40 = y at *
  generalize (2 : Nat) ^ 560 = z at *
  have := Nat.mul_lt_mul_of_pos_left h (two_pos n)
  generalize (2 : Nat) ^ n = w at *
  have e : 40 * (w * x) * y = w * (40 * x * y) := by grind
  rw [e]
  exact this
/-- a quotient of that size -/
structure Qs (L N : Nat) (u v : List Int) : Prop where
  f : QForm u v
  lu : u.length ≤ L
  lv : v.length ≤ L
  bu : Bits N u
  bv : Bits N v
theorem Qs.of {t b u v : List Int} {L n : Nat} (ok : FormOk t b u v) (tt : Trim t) (tb : Trim b) (nb : b ≠ []) (lt : t.length ≤ L) (lb : b.length ≤ L) (bt : Bits n t) (bb : Bits n b) (hL : L ≤ 40) : Qs L (n + 560) u v :=
  ⟨ok.form, Nat.le_trans (ok.lu tt tb nb) lt, Nat.le_trans (ok.lv tb nb) lb, ok.bu tt tb nb bt (Nat.le_trans lt hL) (fb40 n), ok.bv tb nb bb (Nat.le_trans lb hL) (fb40 n)⟩
theorem Qs.two {a b c d : List Int} {L M N K : Nat} (x : Qs L N a b) (y : Qs M K c d) (h : L + M ≤ 41) (hN : N ≤ 9900) (hK : K ≤ 9900) : Two a b c d := by
  have := x.lu
  have := x.lv
  have := y.lu
  have := y.lv
  exact ⟨x.f, y.f, by omega, by omega, by omega, by omega, max N K, x.bu.mono (by omega), x.bv.mono (by omega), y.bu.mono (by omega), y.bv.mono (by omega), by omega⟩
theorem Qs.qn {a b : List Int} {L N : Nat} (x : Qs L N a b) (h : L ≤ 20) (hN : N ≤ 9900) : Qn a b := by
  have := x.lu
  have := x.lv
  exact ⟨x.f, by omega, by omega, N, x.bu, x.bv, hN⟩
theorem pm_bits {a b : List Int} {L n m k : Nat} (ha : Bits n a) (hb : Bits m b) (la : a.length ≤ L) (h : n + m + L ≤ k) : Bits k (pmul a b) := (bits_mulL ha hb).cut.mono (by omega)
theorem pm_len {a b : List Int} {L M : Nat} (la : a.length ≤ L) (lb : b.length ≤ M) : (pmul a b).length ≤ L + M := by have := pmul_len_le a b; omega
theorem Qs.plus {a b c d u v : List Int} {L M N K R : Nat} (x : Qs L N a b) (y : Qs M K c d) (ok : FormOk (paddI (pmul a d) (pmul c b)) (pmul b d) u v) (h : L + M ≤ 40) (hR : N + K + L + M + 1 + 560 ≤ R) : Qs (L + M) R u v := by
  have r := Qs.of (L := L + M) (n := N + K + L + M + 1) ok (cutI_trim _) (pmul_trim _ _) (pmul_ne x.f.tb y.f.tb x.f.nb y.f.nb)
    (by have := paddI_len (pmul a d) (pmul c b); have := pm_len x.lu y.lv; have := pm_len y.lu x.lv; omega) (pm_len x.lv y.lv)
    ((Bits.addL (pm_bits (k := N + K + L + M) x.bu y.bv x.lu (by omega)) (pm_bits (k := N + K + L + M) y.bu x.bv y.lu (by omega)) (Nat.le_refl _)).cut) (pm_bits x.bv y.bv x.lv (by omega)) h
  exact ⟨r.f, r.lu, r.lv, r.bu.mono (by omega), r.bv.mono (by omega)⟩
theorem Qs.minus {a b c d u v : List Int} {L M N K R : Nat} (x : Qs L N a b) (y : Qs M K c d) (ok : FormOk (psubI (pmul a d) (pmul c b)) (pmul b d) u v) (h : L + M ≤ 40) (hR : N + K + L + M + 1 + 560 ≤ R) : Qs (L + M) R u v := by
  have r := Qs.of (L := L + M) (n := N + K + L + M + 1) ok (cutI_trim _) (pmul_trim _ _) (pmul_ne x.f.tb y.f.tb x.f.nb y.f.nb)
    (by have := psubI_len (pmul a d) (pmul c b); have := pm_len x.lu y.lv; have := pm_len y.lu x.lv; omega) (pm_len x.lv y.lv)
    ((Bits.addL (pm_bits (k := N + K + L + M) x.bu y.bv x.lu (by omega)) (pm_bits (k := N + K + L + M) y.bu x.bv y.lu (by omega)).neg (Nat.le_refl _)).cut) (pm_bits x.bv y.bv x.lv (by omega)) h
  exact ⟨r.f, r.lu, r.lv, r.bu.mono (by omega), r.bv.mono (by omega)⟩
theorem Qs.times {a b c d u v : List Int} {L M N K R : Nat} (x : Qs L N a b) (y : Qs M K c d) (ok : FormOk (pmul a c) (pmul b d) u v) (h : L + M ≤ 40) (hR : N + K + L + 560 ≤ R) : Qs (L + M) R u v := by
  have r := Qs.of (L := L + M) (n := N + K + L) ok (pmul_trim _ _) (pmul_trim _ _) (pmul_ne x.f.tb y.f.tb x.f.nb y.f.nb) (pm_len x.lu y.lu) (pm_len x.lv y.lv) (pm_bits x.bu y.bu x.lu (by omega)) (pm_bits x.bv y.bv x.lv (by omega)) h
  exact ⟨r.f, r.lu, r.lv, r.bu.mono (by omega), r.bv.mono (by omega)⟩
theorem Qs.over {a b c d u v : List Int} {L M N K R : Nat} (x : Qs L N a b) (y : Qs M K c d) (nc : c ≠ []) (ok : FormOk (pmul a d) (pmul b c) u v) (h : L + M ≤ 40) (hR : N + K + L + 560 ≤ R) : Qs (L + M) R u v := by
  have r := Qs.of (L := L + M) (n := N + K + L) ok (pmul_trim _ _) (pmul_trim _ _) (pmul_ne x.f.tb y.f.tt x.f.nb nc) (pm_len x.lu y.lv) (pm_len x.lv y.lu) (pm_bits x.bu y.bv x.lu (by omega)) (pm_bits x.bv y.bu x.lv (by omega)) h
  exact ⟨r.f, r.lu, r.lv, r.bu.mono (by omega), r.bv.mono (by omega)⟩
theorem Qs.slope {a b u v : List Int} {L N R : Nat} (x : Qs L N a b) (ok : FormOk (slopeT a b) (pmul b b) u v) (h : L ≤ 20) (hR : N + N + L + 7 + 560 ≤ R) : Qs (L + L) R u v := by
  have la := x.lu
  have lb := x.lv
  have sa := slopeI_len a
  have sb := slopeI_len b
  have p1 := pm_len (a := slopeI a) (b := b) (L := L) (by omega) lb
  have p2 := pm_len (a := a) (b := slopeI b) (M := L) la (by omega)
  have r := Qs.of (L := L + L) (n := N + N + L + 7) ok (cutI_trim _) (pmul_trim _ _) (pmul_ne x.f.tb x.f.tb x.f.nb x.f.nb)
    (by have := psubI_len (pmul (slopeI a) b) (pmul a (slopeI b)); unfold slopeT; omega) (pm_len x.lv x.lv)
    ((Bits.addL (pm_bits (L := L) (k := N + N + L + 6) (x.bu.slope (by omega)) x.bv (by omega) (by omega)) (pm_bits (k := N + N + L + 6) x.bu (x.bv.slope (by omega)) x.lu (by omega)).neg (Nat.le_refl _)).cut) (pm_bits x.bv x.bv x.lv (by omega)) (by omega)
  exact ⟨r.f, r.lu, r.lv, r.bu.mono (by omega), r.bv.mono (by omega)⟩
/-- worth and slope at a place -/
structure At (u v : List Int) (s : Int) (x x' : Rat) : Prop where
  nz : (ev v s : Rat) ≠ 0
  w : (ev u s : Rat) / ev v s = x
  d : ((dv u s : Rat) * ev v s - ev u s * dv v s) / ((ev v s : Rat) * ev v s) = x'
theorem dv_pmul (a b : List Int) (t : Int) : dv (pmul a b) t = dv a t * ev b t + ev a t * dv b t := by
  rw [← dv_mulL]
  exact dv_congr (fun s => by rw [ev_pmul, ev_mulL]) t
theorem dv_paddI (a b : List Int) (t : Int) : dv (paddI a b) t = dv a t + dv b t := by
  rw [← dv_addL]
  exact dv_congr (fun s => by rw [ev_paddI, ev_addL]) t
theorem dv_psubI (a b : List Int) (t : Int) : dv (psubI a b) t = dv a t - dv b t := by
  have h : dv (psubI a b) t = dv (addL a (negL b)) t := dv_congr (fun s => by unfold psubI; rw [ev_cutI]) t
  rw [h, dv_addL]
  unfold negL
  rw [dv_scale]
  omega
theorem qne {z : Int} (h : (z : Rat) ≠ 0) : z ≠ 0 := fun e => h (by rw [e]; rfl)
theorem inv_of {x y : Rat} (h : x * y = 1) : x⁻¹ = y := by
  have : x ≠ 0 := by intro z; rw [z] at h; grind
  grind
theorem of_id {u0 v0 w0 u1 v1 w1 : Rat} (n1 : v0 ≠ 0) (n2 : w0 ≠ 0) : u0 / v0 = (u0 * w0) / (v0 * w0) ∧ (u1 * v0 - u0 * v1) / (v0 * v0) = ((u1 * w0 + u0 * w1) * (v0 * w0) - u0 * w0 * (v1 * w0 + v0 * w1)) / (v0 * w0 * (v0 * w0)) := by
  simp only [Rat.div_def]
  have hb : v0 * v0⁻¹ = 1 := by grind
  have hd : w0 * w0⁻¹ = 1 := by grind
  generalize v0⁻¹ = B at *
  generalize w0⁻¹ = D at *
  rw [inv_of (x := v0 * w0 * (v0 * w0)) (y := B * D * (B * D)) (by grind), inv_of (x := v0 * v0) (y := B * B) (by grind), inv_of (x := v0 * w0) (y := B * D) (by grind)]
  constructor <;> grind
theorem At.of {t b u v : List Int} {s : Int} (ok : FormOk t b u v) (nb : (ev b s : Rat) ≠ 0) : At u v s ((ev t s : Rat) / ev b s) (((dv t s : Rat) * ev b s - ev t s * dv b s) / ((ev b s : Rat) * ev b s)) := by
  obtain ⟨w, h1, h2⟩ := ok.fac
  have d1 : dv t s = dv u s * ev w s + ev u s * dv w s := by rw [← dv_pmul]; exact dv_congr (fun s => by rw [ev_pmul, h1 s]) s
  have d2 : dv b s = dv v s * ev w s + ev v s * dv w s := by rw [← dv_pmul]; exact dv_congr (fun s => by rw [ev_pmul, h2 s]) s
  rw [h1 s, h2 s, d1, d2]
  rw [h2 s] at nb
  push_cast at *
  have v0n : (ev v s : Rat) ≠ 0 := by intro z; rw [z] at nb; grind
  have w0n : (ev w s : Rat) ≠ 0 := by intro z; rw [z] at nb; grind
  obtain ⟨e1, e2⟩ := of_id (u0 := (ev u s : Rat)) (u1 := (dv u s : Rat)) (v1 := (dv v s : Rat)) (w1 := (dv w s : Rat)) v0n w0n
  exact ⟨v0n, e1, e2⟩
theorem plus_id {a0 a1 b0 b1 c0 c1 d0 d1 : Rat} (n1 : b0 ≠ 0) (n2 : d0 ≠ 0) : ((a1 * d0 + a0 * d1 + (c1 * b0 + c0 * b1)) * (b0 * d0) - (a0 * d0 + c0 * b0) * (b1 * d0 + b0 * d1)) / (b0 * d0 * (b0 * d0)) =
    (a1 * b0 - a0 * b1) / (b0 * b0) + (c1 * d0 - c0 * d1) / (d0 * d0) := by
  simp only [Rat.div_def]
  have hb : b0 * b0⁻¹ = 1 := by grind
  have hd : d0 * d0⁻¹ = 1 := by grind
  generalize b0⁻¹ = B at *
  generalize d0⁻¹ = D at *
  rw [inv_of (x := b0 * d0 * (b0 * d0)) (y := B * D * (B * D)) (by grind), inv_of (x := b0 * b0) (y := B * B) (by grind), inv_of (x := d0 * d0) (y := D * D) (by grind)]
  grind
theorem minus_id {a0 a1 b0 b1 c0 c1 d0 d1 : Rat} (n1 : b0 ≠ 0) (n2 : d0 ≠ 0) : ((a1 * d0 + a0 * d1 - (c1 * b0 + c0 * b1)) * (b0 * d0) - (a0 * d0 - c0 * b0) * (b1 * d0 + b0 * d1)) / (b0 * d0 * (b0 * d0)) =
    (a1 * b0 - a0 * b1) / (b0 * b0) - (c1 * d0 - c0 * d1) / (d0 * d0) := by
  simp only [Rat.div_def]
  have hb : b0 * b0⁻¹ = 1 := by grind
  have hd : d0 * d0⁻¹ = 1 := by grind
  generalize b0⁻¹ = B at *
  generalize d0⁻¹ = D at *
  rw [inv_of (x := b0 * d0 * (b0 * d0)) (y := B * D * (B * D)) (by grind), inv_of (x := b0 * b0) (y := B * B) (by grind), inv_of (x := d0 * d0) (y := D * D) (by grind)]
  grind
theorem times_id {a0 a1 b0 b1 c0 c1 d0 d1 : Rat} (n1 : b0 ≠ 0) (n2 : d0 ≠ 0) : ((a1 * c0 + a0 * c1) * (b0 * d0) - a0 * c0 * (b1 * d0 + b0 * d1)) / (b0 * d0 * (b0 * d0)) =
    (a1 * b0 - a0 * b1) / (b0 * b0) * (c0 / d0) + a0 / b0 * ((c1 * d0 - c0 * d1) / (d0 * d0)) := by
  simp only [Rat.div_def]
  have hb : b0 * b0⁻¹ = 1 := by grind
  have hd : d0 * d0⁻¹ = 1 := by grind
  generalize b0⁻¹ = B at *
  generalize d0⁻¹ = D at *
  rw [inv_of (x := b0 * d0 * (b0 * d0)) (y := B * D * (B * D)) (by grind), inv_of (x := b0 * b0) (y := B * B) (by grind), inv_of (x := d0 * d0) (y := D * D) (by grind)]
  grind
theorem At.plus {a b c d u v : List Int} {s : Int} {x x' y y' : Rat} (p : At a b s x x') (q : At c d s y y') (ok : FormOk (paddI (pmul a d) (pmul c b)) (pmul b d) u v) : At u v s (x + y) (x' + y') := by
  obtain ⟨n1, rfl, rfl⟩ := p
  obtain ⟨n2, rfl, rfl⟩ := q
  have r := At.of (s := s) ok (by rw [ev_pmul]; push_cast; grind)
  refine ⟨r.nz, r.w.trans ?_, r.d.trans ?_⟩
  · rw [ev_paddI, ev_pmul, ev_pmul, ev_pmul]
    push_cast
    generalize (ev a s : Rat) = a0 at *
    generalize (ev b s : Rat) = b0 at *
    generalize (ev c s : Rat) = c0 at *
    generalize (ev d s : Rat) = d0 at *
    clear r
    grind
  · rw [ev_paddI, dv_paddI, ev_pmul, ev_pmul, ev_pmul, dv_pmul, dv_pmul, dv_pmul]
    push_cast
    exact plus_id n1 n2
theorem At.minus {a b c d u v : List Int} {s : Int} {x x' y y' : Rat} (p : At a b s x x') (q : At c d s y y') (ok : FormOk (psubI (pmul a d) (pmul c b)) (pmul b d) u v) : At u v s (x - y) (x' - y') := by
  obtain ⟨n1, rfl, rfl⟩ := p
  obtain ⟨n2, rfl, rfl⟩ := q
  have r := At.of (s := s) ok (by rw [ev_pmul]; push_cast; grind)
  refine ⟨r.nz, r.w.trans ?_, r.d.trans ?_⟩
  · rw [ev_psubI, ev_pmul, ev_pmul, ev_pmul]
    push_cast
    generalize (ev a s : Rat) = a0 at *
    generalize (ev b s : Rat) = b0 at *
    generalize (ev c s : Rat) = c0 at *
    generalize (ev d s : Rat) = d0 at *
    clear r
    grind
  · rw [ev_psubI, dv_psubI, ev_pmul, ev_pmul, ev_pmul, dv_pmul, dv_pmul, dv_pmul]
    push_cast
    exact minus_id n1 n2
theorem At.times {a b c d u v : List Int} {s : Int} {x x' y y' : Rat} (p : At a b s x x') (q : At c d s y y') (ok : FormOk (pmul a c) (pmul b d) u v) : At u v s (x * y) (x' * y + x * y') := by
  obtain ⟨n1, rfl, rfl⟩ := p
  obtain ⟨n2, rfl, rfl⟩ := q
  have r := At.of (s := s) ok (by rw [ev_pmul]; push_cast; grind)
  refine ⟨r.nz, r.w.trans ?_, r.d.trans ?_⟩
  · rw [ev_pmul, ev_pmul]
    push_cast
    generalize (ev a s : Rat) = a0 at *
    generalize (ev b s : Rat) = b0 at *
    generalize (ev c s : Rat) = c0 at *
    generalize (ev d s : Rat) = d0 at *
    clear r
    grind
  · rw [ev_pmul, ev_pmul, dv_pmul, dv_pmul]
    push_cast
    exact times_id n1 n2
theorem over_id {a0 a1 b0 b1 c0 c1 d0 d1 : Rat} (n1 : b0 ≠ 0) (nc : c0 ≠ 0) (n2 : d0 ≠ 0) : ((a1 * d0 + a0 * d1) * (b0 * c0) - a0 * d0 * (b1 * c0 + b0 * c1)) / (b0 * c0 * (b0 * c0)) =
    ((a1 * b0 - a0 * b1) / (b0 * b0) * (c0 / d0) - a0 / b0 * ((c1 * d0 - c0 * d1) / (d0 * d0))) / (c0 / d0 * (c0 / d0)) := by
  simp only [Rat.div_def]
  have hb : b0 * b0⁻¹ = 1 := by grind
  have hc : c0 * c0⁻¹ = 1 := by grind
  have hd : d0 * d0⁻¹ = 1 := by grind
  generalize b0⁻¹ = B at *
  generalize hC : c0⁻¹ = C at *
  generalize d0⁻¹ = D at *
  rw [inv_of (x := b0 * c0 * (b0 * c0)) (y := B * C * (B * C)) (by grind), inv_of (x := b0 * b0) (y := B * B) (by grind), inv_of (x := d0 * d0) (y := D * D) (by grind), inv_of (x := c0 * D * (c0 * D)) (y := C * d0 * (C * d0)) (by grind)]
  grind
theorem At.over {a b c d u v : List Int} {s : Int} {x x' y y' : Rat} (p : At a b s x x') (q : At c d s y y') (ny : y ≠ 0) (ok : FormOk (pmul a d) (pmul b c) u v) : At u v s (x / y) ((x' * y - x * y') / (y * y)) := by
  obtain ⟨n1, rfl, rfl⟩ := p
  obtain ⟨n2, rfl, rfl⟩ := q
  have nc : (ev c s : Rat) ≠ 0 := by intro z; rw [z] at ny; grind
  have r := At.of (s := s) ok (by rw [ev_pmul]; push_cast; grind)
  refine ⟨r.nz, r.w.trans ?_, r.d.trans ?_⟩
  · rw [ev_pmul, ev_pmul]
    push_cast
    generalize (ev a s : Rat) = a0 at *
    generalize (ev b s : Rat) = b0 at *
    generalize (ev c s : Rat) = c0 at *
    generalize (ev d s : Rat) = d0 at *
    clear r
    grind
  · rw [ev_pmul, ev_pmul, dv_pmul, dv_pmul]
    push_cast
    exact over_id n1 nc n2
theorem At.slope {a b u v : List Int} {s : Int} {x x' : Rat} (p : At a b s x x') (ok : FormOk (slopeT a b) (pmul b b) u v) : ∃ z, At u v s x' z := by
  obtain ⟨n1, rfl, rfl⟩ := p
  have r := At.of (s := s) ok (by rw [ev_pmul]; push_cast; grind)
  refine ⟨_, r.nz, r.w.trans ?_, rfl⟩
  rw [ev_slopeT, ev_pmul]
  push_cast
  rfl
/-- two of one worth at almost every place are one -/
theorem form_eq {u v u' v' p : List Int} (x : QForm u v) (y : QForm u' v') (tp : Trim p) (np : p ≠ []) (h : ∀ s, (ev p s : Rat) ≠ 0 → ∃ z z1 z2, At u v s z z1 ∧ At u' v' s z z2) : u = u' ∧ v = v' := by
  refine x.unique y fun s => ?_
  have nil : psubI (pmul u v') (pmul u' v) = [] := by
    by_cases c : psubI (pmul u v') (pmul u' v) = []
    · exact c
    · refine absurd (nil_of_ev (pmul_trim _ _) fun t => ?_) (pmul_ne (cutI_trim _) tp c np)
      have e0 : ev (pmul (psubI (pmul u v') (pmul u' v)) p) t = (ev u t * ev v' t - ev u' t * ev v t) * ev p t := by rw [ev_pmul, ev_psubI, ev_pmul, ev_pmul]
      refine Eq.trans e0 ?_
      by_cases z : (ev p t : Rat) = 0
      · have : ev p t = 0 := by exact_mod_cast z
        rw [this, Int.mul_zero]
      · obtain ⟨z, _, _, p1, p2⟩ := h t z
        have e : (ev u t : Rat) * ev v' t = ev u' t * ev v t := by
          have n1 := p1.nz
          have n2 := p2.nz
          have := p1.w.trans p2.w.symm
          grind
        have e' : ev u t * ev v' t = ev u' t * ev v t := by exact_mod_cast e
        rw [e', Int.sub_self, Int.zero_mul]
  have := ev_psubI (pmul u v') (pmul u' v) s
  rw [nil, ev_pmul, ev_pmul] at this
  have h0 : ev [] s = 0 := rfl
  omega
end DL
end L2

namespace L2
namespace DL
open PySem PySem.Spec PyProof PyProof.Rows
namespace K12
theorem toPy_qt (a b : List Int) : toPy (QT a b) = some (.tuple [.tuple (a.map PyData.int), .tuple (b.map PyData.int)]) := by
  show (toPys [PT a, PT b]).map PyData.tuple = _
  simp only [toPys, toPy, toPys_ints, Option.map_some]
theorem shaped_qt (a b : List Int) : SeqAt.shaped (.tuple [.tuple (a.map PyData.int), .tuple (b.map PyData.int)]) = true := by
  have h1 : PyData.canLay0 (.tuple [.tuple (a.map PyData.int), .tuple (b.map PyData.int)]) = true := by
    show (PyData.canLayAll0 (a.map PyData.int) && (PyData.canLayAll0 (b.map PyData.int) && true)) = true
    rw [canLay_ints, canLay_ints]
    rfl
  have h2 : PyData.depth (.tuple [.tuple (a.map PyData.int), .tuple (b.map PyData.int)]) ≤ 64 := by
    show max (PyData.depthAll (a.map PyData.int) + 1) (max (PyData.depthAll (b.map PyData.int) + 1) 0) + 1 ≤ 64
    rw [depth_ints, depth_ints]
    decide
  unfold SeqAt.shaped
  rw [h1, decide_eq_true h2]
  rfl
theorem eqv_qt (a b c d : List Int) : PyData.eqv (.tuple [.tuple (a.map PyData.int), .tuple (b.map PyData.int)]) (.tuple [.tuple (c.map PyData.int), .tuple (d.map PyData.int)]) = (decide (a = c) && decide (b = d)) := by
  show (PyData.eqvAll (a.map PyData.int) (c.map PyData.int) && (PyData.eqvAll (b.map PyData.int) (d.map PyData.int) && true)) = _
  rw [eqvAll_ints, eqvAll_ints, Bool.and_true]
theorem oEq_qt {a b c d : List Int} {S : Sto} {Q : DK} : oEq (QT a b) (QT c d) S Q = Q (.bl (decide (a = c) && decide (b = d))) S := by
  apply propext
  constructor
  · rintro ⟨x, y, e1, e2, _, _, h⟩
    rw [toPy_qt] at e1 e2
    cases e1
    cases e2
    rw [eqv_qt] at h
    exact h
  · intro h
    exact ⟨_, _, toPy_qt a b, toPy_qt c d, shaped_qt a b, shaped_qt c d, by rw [eqv_qt]; exact h⟩
theorem oNe_qt {a b c d : List Int} {S : Sto} {Q : DK} : oNe (QT a b) (QT c d) S Q = Q (.bl (!(decide (a = c) && decide (b = d)))) S := by
  apply propext
  constructor
  · rintro ⟨x, y, e1, e2, _, _, h⟩
    rw [toPy_qt] at e1 e2
    cases e1
    cases e2
    rw [eqv_qt] at h
    exact h
  · intro h
    exact ⟨_, _, toPy_qt a b, toPy_qt c d, shaped_qt a b, shaped_qt c d, by rw [eqv_qt]; exact h⟩
theorem oEq_q01 {a b : List Int} {S : Sto} {Q : DK} : oEq (.tup [PT a, PT b]) (.tup [.tup [], .tup [.int 1]]) S Q = Q (.bl (decide (a = []) && decide (b = [1]))) S := oEq_qt (c := []) (d := [1])
theorem oNe_q01 {a b : List Int} {S : Sto} {Q : DK} : oNe (.tup [PT a, PT b]) (.tup [.tup [], .tup [.int 1]]) S Q = Q (.bl (!(decide (a = []) && decide (b = [1])))) S := oNe_qt (c := []) (d := [1])
theorem oNe_bb {a b : Bool} {S : Sto} {Q : DK} : oNe (.bl a) (.bl b) S Q = Q (.bl (a != b)) S := by
  apply propext
  constructor
  · rintro ⟨x, y, e1, e2, _, _, h⟩
    cases e1
    cases e2
    cases a <;> cases b <;> exact h
  · intro h
    refine ⟨_, _, rfl, rfl, by cases a <;> decide +kernel, by cases b <;> decide +kernel, ?_⟩
    cases a <;> cases b <;> exact h
section
variable {C : Cs} {S : Sto} {Q : DK} {E : Addr → Sto → Prop} {a b c d : List Int} {L M N K : Nat}
theorem cl_plus (R : Nat) (x : Qs L N a b) (y : Qs M K c d) (k : ∀ u v, FormOk (paddI (pmul a d) (pmul c b)) (pmul b d) u v → Qs (L + M) R u v → Q (QT u v) S) (h : L + M ≤ 40 := by decide) (hN : N ≤ 9900 := by decide) (hK : K ≤ 9900 := by decide) (hR : N + K + L + M + 1 + 560 ≤ R := by decide) : sp_qplus C [QT a b, QT c d] S Q E :=
  ⟨a, b, c, d, rfl, x.two y (by omega) hN hK, fun u v ok => k u v ok (x.plus y ok h hR)⟩
theorem cl_minus (R : Nat) (x : Qs L N a b) (y : Qs M K c d) (k : ∀ u v, FormOk (psubI (pmul a d) (pmul c b)) (pmul b d) u v → Qs (L + M) R u v → Q (QT u v) S) (h : L + M ≤ 40 := by decide) (hN : N ≤ 9900 := by decide) (hK : K ≤ 9900 := by decide) (hR : N + K + L + M + 1 + 560 ≤ R := by decide) : sp_qminus C [QT a b, QT c d] S Q E :=
  ⟨a, b, c, d, rfl, x.two y (by omega) hN hK, fun u v ok => k u v ok (x.minus y ok h hR)⟩
theorem cl_times (R : Nat) (x : Qs L N a b) (y : Qs M K c d) (k : ∀ u v, FormOk (pmul a c) (pmul b d) u v → Qs (L + M) R u v → Q (QT u v) S) (h : L + M ≤ 40 := by decide) (hN : N ≤ 9900 := by decide) (hK : K ≤ 9900 := by decide) (hR : N + K + L + 560 ≤ R := by decide) : sp_qtimes C [QT a b, QT c d] S Q E :=
  ⟨a, b, c, d, rfl, x.two y (by omega) hN hK, fun u v ok => k u v ok (x.times y ok h hR)⟩
theorem cl_over (R : Nat) (x : Qs L N a b) (y : Qs M K c d) (nc : c ≠ []) (k : ∀ u v, FormOk (pmul a d) (pmul b c) u v → Qs (L + M) R u v → Q (QT u v) S) (h : L + M ≤ 40 := by decide) (hN : N ≤ 9900 := by decide) (hK : K ≤ 9900 := by decide) (hR : N + K + L + 560 ≤ R := by decide) : sp_qover C [QT a b, QT c d] S Q E :=
  ⟨a, b, c, d, rfl, x.two y (by omega) hN hK, fun z => absurd z nc, fun _ u v ok => k u v ok (x.over y nc ok h hR)⟩
theorem cl_slope (R : Nat) (x : Qs L N a b) (k : ∀ u v, FormOk (slopeT a b) (pmul b b) u v → Qs (L + L) R u v → Q (QT u v) S) (h : L ≤ 20 := by decide) (hN : N ≤ 9900 := by decide) (hR : N + N + L + 7 + 560 ≤ R := by decide) : sp_qslope C [QT a b] S Q E :=
  ⟨a, b, rfl, x.qn h hN, fun u v ok => k u v ok (x.slope ok h hR)⟩
end
theorem At.base {a b : List Int} {s : Int} (h : (ev b s : Rat) ≠ 0) : At a b s ((ev a s : Rat) / ev b s) (((dv a s : Rat) * ev b s - ev a s * dv b s) / ((ev b s : Rat) * ev b s)) := ⟨h, rfl, rfl⟩
theorem at_cast {u v : List Int} {s : Int} {x x' y : Rat} (h : At u v s x x') (e : x = y) : At u v s y x' := by rw [← e]; exact h
theorem At.zero (s : Int) : At [] [1] s 0 0 := by
  have e1 : ev [] s = 0 := rfl
  have e2 : ev [1] s = 1 := by show 1 + s * 0 = 1; omega
  have e3 : dv [] s = 0 := rfl
  refine ⟨by rw [e2]; decide, by rw [e1, e2]; push_cast; grind, by rw [e1, e2, e3]; push_cast; grind⟩
theorem At.one (s : Int) : ∃ z, At [1] [1] s 1 z := by
  have e2 : ev [1] s = 1 := by show 1 + s * 0 = 1; omega
  exact ⟨_, by rw [e2]; decide, by rw [e2]; push_cast; grind, rfl⟩
theorem form_01 : QForm [] [1] := (form_zero [1]).form
/-- the three and where their bottoms are not 0 -/
structure Tri (a b c d e f : List Int) : Prop where
  x : Qs 3 600 a b
  y : Qs 3 600 c d
  z : Qs 3 600 e f
theorem Tri.tp {a b c d e f : List Int} : Trim (pmul (pmul b d) f) := pmul_trim _ _
theorem Tri.np {a b c d e f : List Int} (t : Tri a b c d e f) : pmul (pmul b d) f ≠ [] := pmul_ne (pmul_trim _ _) t.z.f.tb (pmul_ne t.x.f.tb t.y.f.tb t.x.f.nb t.y.f.nb) t.z.f.nb
theorem at_three {b d f : List Int} {s : Int} (h : (ev (pmul (pmul b d) f) s : Rat) ≠ 0) : (ev b s : Rat) ≠ 0 ∧ (ev d s : Rat) ≠ 0 ∧ (ev f s : Rat) ≠ 0 := by
  rw [ev_pmul, ev_pmul] at h
  push_cast at h
  refine ⟨fun z => h (by rw [z]; grind), fun z => h (by rw [z]; grind), fun z => h (by rw [z]; grind)⟩
def sp_lworths (C : Cs) : DSp := fun ds S Q _ => ∃ a b c d e f x, ds = [.tup [QT a b, QT c d, QT e f], NQ x] ∧ Tri a b c d e f ∧ RB 40 x ∧ (∀ S', Sub S S' → (evQ b x = 0 ∨ evQ d x = 0 ∨ evQ f x = 0) → Q .non S') ∧
  ∀ p S', S p = none → Sub S S' → S' p = some (.lst [NQ (evQ a x / evQ b x), NQ (evQ c x / evQ d x), NQ (evQ e x / evQ f x)]) → evQ b x ≠ 0 → evQ d x ≠ 0 → evQ f x ≠ 0 → Q (.ref p) S'
theorem cl_worth {C : Cs} {S : Sto} {Q : DK} {E : Addr → Sto → Prop} {a b : List Int} {L N : Nat} {x : Rat} (q : Qs L N a b) (bx : RB 40 x) (k0 : evQ b x = 0 → E C.np S) (k : evQ b x ≠ 0 → Q (NQ (evQ a x / evQ b x)) S) (hL : L ≤ 40 := by decide) (hN : N ≤ 9900 := by decide) : sp_qworth C [QT a b, NQ x] S Q E := by
  have lu := q.lu
  have lv := q.lv
  have m1 := Nat.mul_le_mul (show a.length + 2 ≤ 42 by omega) (show N + 1 + 40 + 1 ≤ 9942 by omega)
  have m2 := Nat.mul_le_mul (show b.length + 2 ≤ 42 by omega) (show N + 1 + 40 + 1 ≤ 9942 by omega)
  exact ⟨a, b, x, rfl, by omega, by omega, ⟨N + 1, 40, q.bu.mono (by omega), q.bv.mono (by omega), bx, by omega, by omega, by omega⟩, k0, k⟩
theorem oNe_q11 {a b : List Int} {S : Sto} {Q : DK} : oNe (.tup [PT a, PT b]) (.tup [.tup [.int 1], .tup [.int 1]]) S Q = Q (.bl (!(decide (a = [1]) && decide (b = [1])))) S := oNe_qt (c := [1]) (d := [1])
theorem form_evQ {t b u v : List Int} (ok : FormOk t b u v) {x : Rat} (nb : evQ b x ≠ 0) : evQ v x ≠ 0 ∧ evQ u x / evQ v x = evQ t x / evQ b x := by
  obtain ⟨w, h1, h2⟩ := ok.fac
  have e1 : evQ t x = evQ u x * evQ w x := by rw [← evQ_mulL]; exact evQ_of_ev (fun s => by rw [ev_mulL, h1 s]) x
  have e2 : evQ b x = evQ v x * evQ w x := by rw [← evQ_mulL]; exact evQ_of_ev (fun s => by rw [ev_mulL, h2 s]) x
  rw [e2] at nb
  have n1 : evQ v x ≠ 0 := by intro z; rw [z] at nb; grind
  have n2 : evQ w x ≠ 0 := by intro z; rw [z] at nb; grind
  rw [e1, e2]
  exact ⟨n1, (of_id (u1 := 0) (v1 := 0) (w1 := 0) n1 n2).1⟩
theorem sum_worth {a b c d e f u v u' v' : List Int} {x : Rat} (n1 : evQ b x ≠ 0) (n2 : evQ d x ≠ 0) (n3 : evQ f x ≠ 0) (k : FormOk (pmul a c) (pmul b d) u v) (l : FormOk (paddI (pmul u f) (pmul e v)) (pmul v f) u' v') :
    evQ v' x ≠ 0 ∧ evQ u' x / evQ v' x = evQ a x / evQ b x * (evQ c x / evQ d x) + evQ e x / evQ f x := by
  obtain ⟨m1, w1⟩ := form_evQ k (x := x) (by rw [evQ_pmul]; intro z; rcases Rat.mul_eq_zero.mp z with z | z; exact n1 z; exact n2 z)
  obtain ⟨m2, w2⟩ := form_evQ l (x := x) (by rw [evQ_pmul]; intro z; rcases Rat.mul_eq_zero.mp z with z | z; exact m1 z; exact n3 z)
  refine ⟨m2, w2.trans ?_⟩
  have e1 : evQ (paddI (pmul u f) (pmul e v)) x = evQ u x * evQ f x + evQ e x * evQ v x := by
    unfold paddI
    rw [evQ_cutI, evQ_addL, evQ_pmul, evQ_pmul]
  rw [e1, evQ_pmul]
  rw [evQ_pmul, evQ_pmul] at w1
  have h : (evQ u x * evQ f x + evQ e x * evQ v x) / (evQ v x * evQ f x) = evQ u x / evQ v x + evQ e x / evQ f x := by
    generalize evQ u x = u0 at *
    generalize evQ v x = v0 at *
    generalize evQ e x = e0 at *
    generalize evQ f x = f0 at *
    clear w1 w2 e1
    grind
  rw [h, w1]
  generalize evQ a x = a0 at *
  generalize evQ b x = b0 at *
  generalize evQ c x = c0 at *
  generalize evQ d x = d0 at *
  clear h e1 w1 w2
  grind
local macro_rules | `(tactic| walk_at "dl") => `(tactic| simp only [sSeq, sSet, sIf, sRet, sPar, sNext, sDrop, sAsg, sRaise, eBin, eUn, eVar, eC, eB, eM, eM0, eTup, eLst, eCall, eAndV, eOrV, eNotV, eIf, aCons, aNil, tVal, tAndD, tOrD, tNotD, cBl, dName, dSub, dTup, dLst, dCons, dNil,
  onI_ii, onIC_ii, oAdd_ii, oAdd_tt, oIadd_ii, oMul_ii, oNeg_i, oEq_ii, oNe_ii, oIx_t, oIx_v, oIx_r, oLen_t, oLen_v, oLen_r, oAbs_i, o2I_ii, oInt_i, oInt_b, oTuple_t, oTuple_r, isi_int, isi_bool, isi_tup, oSet_r, oAppend_r, isL_r, iLstD_r, lstAt_sup, rdAt_sup, ix0, ix1, ix2, ix3, sFor, iRange1, iRange2,
  call_divisor, call_number, call_draw, call_whole, call_isWhole, call_isNumber, call_low, call_told, call_lover, call_right,
  call_content, call_parted, call_plain, call_lpoly, oEq_pp, oNe_pp, oEq_p0, oNe_p0, iTupD, eLc, oMul_t, eSl, pNone, pSome, cSl, sAug, eLstRg1, tYesD, sPar3, call_figAt, call_pplus, call_pminus, call_scaled, call_raised, call_lsum, call_lproduct, call_ptimes, call_head, call_restBy, call_longdiv, call_lleft, call_common, call_lcommon, call_pslope, call_lslope, call_worth, call_lworth, call_lnumber, oNe_qq, iEnumTup, iRevTup, iRange2, call_ldivided, call_lform, call_lquotient,  call_quotient, call_wcommon, call_wholeD, oIsB_bb, oNotB_bb, oIsN_n, oNotN_n, oNe_qt, oNe_q01, oNe_q11,
  bodyEnds, bodyEX, List.set_cons_zero, List.set_cons_succ, List.getElem?_cons_zero, List.getElem?_cons_succ, decide_eq_true_eq, Bool.not_eq_true', decide_eq_false_iff_not, List.nil_append, List.append_nil, List.cons_append, Bool.false_eq_true, if_false, if_true, true_and, and_true])
/-- _law_worths: 0 _law_all_three, 1 _law_at, 2 _law_one -/
def t__law_worths (C : Cs) : DS :=
  (sTryN (sRet (eLcX (iTupD (eVar 0)) (dName 2) (eCall (sp_qworth C) [] (aCons (eVar 2) (aCons (eVar 1) aNil))) [2])) (fun a => decide (a = C.np)))
def t_law_0_6t_3 (C : Cs) : DS :=
  (sIf (tVal (eBin oNe (eCall (sp_qslope C) [] (aCons (eVar 6) aNil)) (eCall (sp_qover C) [] (aCons (eVar 7) (aCons (eCall (sp_qtimes C) [] (aCons (eVar 4) (aCons (eVar 4) aNil))) aNil))))) (sRet (eC (.bl false))) sNext)
def t_law_0_6t_2 (C : Cs) : DS :=
  (sSeq (sSet 7 (eCall (sp_qminus C) [] (aCons (eCall (sp_qtimes C) [] (aCons (eCall (sp_qslope C) [] (aCons (eVar 3) aNil)) (aCons (eVar 4) aNil))) (aCons (eCall (sp_qtimes C) [] (aCons (eVar 3) (aCons (eCall (sp_qslope C) [] (aCons (eVar 4) aNil)) aNil))) aNil))))
  (t_law_0_6t_3 C))
def t_law_0_6t_1 (C : Cs) : DS :=
  (sSeq (sIf (tOrD (tVal (eBin oNe (eCall (sp_qtimes C) [] (aCons (eVar 6) (aCons (eVar 4) aNil))) (eVar 3))) (tVal (eBin oNe (eCall (sp_qover C) [] (aCons (eVar 4) (aCons (eVar 4) aNil))) (eTup (aCons (eTup (aCons (eC (.int 1)) aNil)) (aCons (eTup (aCons (eC (.int 1)) aNil)) aNil)))))) (sRet (eC (.bl false))) sNext)
  (t_law_0_6t_2 C))
def t_law_0_6t_0 (C : Cs) : DS :=
  (sSeq (sSet 6 (eCall (sp_qover C) [] (aCons (eVar 3) (aCons (eVar 4) aNil))))
  (t_law_0_6t_1 C))
def t_law_0_8 (C : Cs) : DS :=
  (sSeq (sSet 9 (eCall (sp_lworths C) [] (aCons (eTup (aCons (eVar 3) (aCons (eVar 4) (aCons (eVar 5) aNil)))) (aCons (eVar 8) aNil))))
  (sIf (tVal (eBin oNotN (eVar 9) (eC .non))) (sSeq (sSet 10 (eCall (sp_plus C) [] (aCons (eCall (sp_times C) [] (aCons (eBin oIx (eVar 9) (eC (.int 0))) (aCons (eBin oIx (eVar 9) (eC (.int 1))) aNil))) (aCons (eBin oIx (eVar 9) (eC (.int 2))) aNil))))
  (sIf (tVal (eBin oNe (eCall (sp_qworth C) [] (aCons (eCall (sp_qplus C) [] (aCons (eCall (sp_qtimes C) [] (aCons (eVar 3) (aCons (eVar 4) aNil))) (aCons (eVar 5) aNil))) (aCons (eVar 8) aNil))) (eVar 10))) (sRet (eC (.bl false))) sNext)) sNext))
def t_law_0_7 (C : Cs) : DS :=
  (sSeq (sSet 8 (eCall sp_lnumber [] (aCons (eVar 2) (aCons (eBin oPow (eC (.int 10)) (eC (.int 6))) aNil))))
  (t_law_0_8 C))
def t_law_0_6 (C : Cs) : DS :=
  (sSeq (sIf (tVal (eBin oNe (eBin oIx (eVar 4) (eC (.int 0))) (eTup aNil))) (t_law_0_6t_0 C) sNext)
  (t_law_0_7 C))
def t_law_0_5 (C : Cs) : DS :=
  (sSeq (sIf (tVal (eBin oNe (eCall (sp_qslope C) [] (aCons (eCall (sp_qtimes C) [] (aCons (eVar 3) (aCons (eVar 4) aNil))) aNil)) (eCall (sp_qplus C) [] (aCons (eCall (sp_qtimes C) [] (aCons (eCall (sp_qslope C) [] (aCons (eVar 3) aNil)) (aCons (eVar 4) aNil))) (aCons (eCall (sp_qtimes C) [] (aCons (eVar 3) (aCons (eCall (sp_qslope C) [] (aCons (eVar 4) aNil)) aNil))) aNil))))) (sRet (eC (.bl false))) sNext)
  (t_law_0_6 C))
def t_law_0_4 (C : Cs) : DS :=
  (sSeq (sIf (tVal (eBin oNe (eCall (sp_qslope C) [] (aCons (eCall (sp_qplus C) [] (aCons (eVar 3) (aCons (eVar 4) aNil))) aNil)) (eCall (sp_qplus C) [] (aCons (eCall (sp_qslope C) [] (aCons (eVar 3) aNil)) (aCons (eCall (sp_qslope C) [] (aCons (eVar 4) aNil)) aNil))))) (sRet (eC (.bl false))) sNext)
  (t_law_0_5 C))
def t_law_0_3 (C : Cs) : DS :=
  (sSeq (sIf (tOrD (tVal (eBin oNe (eCall (sp_qminus C) [] (aCons (eVar 3) (aCons (eVar 3) aNil))) (eTup (aCons (eTup aNil) (aCons (eTup (aCons (eC (.int 1)) aNil)) aNil))))) (tVal (eBin oNe (eCall (sp_qplus C) [] (aCons (eCall (sp_qminus C) [] (aCons (eVar 3) (aCons (eVar 4) aNil))) (aCons (eVar 4) aNil))) (eVar 3)))) (sRet (eC (.bl false))) sNext)
  (t_law_0_4 C))
def t_law_0_2 (C : Cs) : DS :=
  (sSeq (sIf (tVal (eBin oNe (eCall (sp_qtimes C) [] (aCons (eCall (sp_qplus C) [] (aCons (eVar 3) (aCons (eVar 4) aNil))) (aCons (eVar 5) aNil))) (eCall (sp_qplus C) [] (aCons (eCall (sp_qtimes C) [] (aCons (eVar 3) (aCons (eVar 5) aNil))) (aCons (eCall (sp_qtimes C) [] (aCons (eVar 4) (aCons (eVar 5) aNil))) aNil))))) (sRet (eC (.bl false))) sNext)
  (t_law_0_3 C))
def t_law_0_1 (C : Cs) : DS :=
  (sSeq (sAsg (eLc (iRange1 (aCons (eC (.int 3)) aNil)) (dName 11) tYesD (eCall sp_lquotient [] (aCons (eVar 2) (aCons (eC (.int 3)) (aCons (eBin oPow (eC (.int 10)) (eC (.int 9))) aNil)))) [11]) (dLst 3 (dCons (dName 3) (dCons (dName 4) (dCons (dName 5) dNil)))))
  (t_law_0_2 C))
def t_law_0_0 (C : Cs) : DS :=
  (sSeq (sSet 2 (eCall sp_purse [] (aCons (eVar 0) (aCons (eVar 1) aNil))))
  (t_law_0_1 C))
/-- law: 0 _law_script, 1 _law_k, 2 _law_purse_here, 3 _law_one, 4 _law_other, 5 _law_third, 6 _law_share_of_both, 7 _law_left_here, 8 _law_at, 9 _law_worths_here, 10 _law_due, 11 _law_again -/
def t_law (C : Cs) : DS :=
  (sSeq (sFor (iLstD (eCall sp_many [] (aCons (eVar 0) (aCons (eC (.int 5)) aNil)))) (dName 1) (t_law_0_0 C))
  (sRet (eC (.bl true))))
theorem sz0' : ([] : List D).length < sizeLine := size_lt (by decide)
theorem sz1' {x : D} : [x].length < sizeLine := size_lt (show 1 < 100000 by decide)
theorem sz2' {x y : D} : [x, y].length < sizeLine := size_lt (show 2 < 100000 by decide)
theorem sem__law_worths {C : Cs} : ∀ ds S Q E, sp_lworths C ds S Q E → t__law_worths C (bodyEX E) (bodyEnds Q) (dstart ["_law_all_three", "_law_at", "_law_one"] ds) S := by
  rintro ds S Q E ⟨a, b, c, d, e, f, x, rfl, t, bx, h0, h⟩
  show t__law_worths C (bodyEX E) (bodyEnds Q) [some (.tup [QT a b, QT c d, QT e f]), some (NQ x), none] S
  unfold t__law_worths
  simp only [sTryN, sRet, eLcX, iTupD, eVar, List.getElem?_cons_zero]
  intro p np
  have no : ∀ (S' : Sto), Sub S S' → (evQ b x = 0 ∨ evQ d x = 0 ∨ evQ f x = 0) → C.np = C.np ∧ ∃ S0, Sub S0 S' ∧ Q .non S0 := fun S' sb z => ⟨rfl, S', Sub.refl S', h0 S' sb z⟩
  have s0 : Sub S (sup S p (.lst [])) := Sub.new np
  have st : ∀ {S' : Sto} (l : List D), Sub S S' → Sub S (sup S' p (.lst l)) := fun {S'} l sb z o e => by
    rw [sup_ne (by rintro rfl; rw [np] at e; cases e)]
    exact sb z o e
  refine ⟨trivial, ?_⟩
  walk_at "dl"
  refine cl_worth t.x bx (fun z => no _ s0 (.inl z)) fun n1 => ⟨_, sup_same, sz0', trivial, ?_⟩
  walk_at "dl"
  refine cl_worth t.y bx (fun z => no _ (st _ s0) (.inr (.inl z))) fun n2 => ⟨_, sup_same, sz1', trivial, ?_⟩
  walk_at "dl"
  refine cl_worth t.z bx (fun z => no _ (st _ (st _ s0)) (.inr (.inr z))) fun n3 => ⟨_, sup_same, sz2', trivial, ?_⟩
  exact ⟨_, Sub.refl _, h p _ np (st _ (st _ (st _ s0))) sup_same n1 n2 n3⟩
theorem e6 : (10 : Int) ^ Int.toNat 6 = 1000000 := by decide
theorem e9 : (10 : Int) ^ Int.toNat 9 = 1000000000 := by decide
theorem wr {a b : List Int} {x : Rat} (q : Qs 3 600 a b) (bx : RB 40 x) (n : evQ b x ≠ 0) : RB 10000 (evQ a x / evQ b x) := by
  have la := q.lu
  have lb := q.lv
  have h1 := (worth_bits q.bu bx (by decide)).mono (show a.length * (600 + 40 + 1) + 1 ≤ 2000 by omega)
  have h2 := (worth_bits q.bv bx (by decide)).mono (show b.length * (600 + 40 + 1) + 1 ≤ 2000 by omega)
  have ml : ∀ {u v : Int}, u.natAbs < 2 ^ 2000 → v.natAbs < 2 ^ 2000 → (u * v).natAbs < 2 ^ 10000 := fun {u v} hu hv => by
    rw [Int.natAbs_mul]
    refine Nat.lt_of_lt_of_le ?_ (pow_mono (show 2000 + 2000 ≤ 10000 by decide))
    rw [Nat.pow_add]
    exact Nat.mul_lt_mul'' hu hv
  rw [← over_divInt n]
  exact RB.divInt (over_ne n) (ml h1.num h2.den) (ml h1.den h2.num)
theorem form_11 : QForm [1] [1] := ⟨trim_one.mpr (by decide), trim_one.mpr (by decide), by decide, by decide, fun d h _ => h, by decide⟩
theorem div_one_of {y : Rat} (h : y ≠ 0) : y / y = 1 := by grind
abbrev lo (scr : D) (o1 : Option D) (p : Addr) (a b c d e f : List Int) (o6 o7 o8 o9 o10 o11 : Option D) : DSt := [some scr, o1, some (.ref p), some (QT a b), some (QT c d), some (QT e f), o6, o7, o8, o9, o10, o11]
section
variable {C : Cs} {EX : EXK} {T : DEnds} {S0 S : Sto} {p : Addr} {a b c d e f : List Int} {scr : D} {o1 o6 o7 o8 o9 o10 o11 : Option D}
theorem eq_of {X : DS} {u v u' v' : List Int} (hh : u = u' ∧ v = v') : (if (!(decide (u = u') && decide (v = v'))) = true then sRet (eC (.bl false)) else X) = X := by
  obtain ⟨rfl, rfl⟩ := hh
  simp
theorem run_8 (t : Tri a b c d e f) {x : Rat} (bx : RB 40 x) (s0 : Sub S0 S) (h : ∀ o6 o7 o8 o9 o10 o11 S', Sub S0 S' → T.nx (lo scr o1 p a b c d e f o6 o7 o8 o9 o10 o11) S') : t_law_0_8 C EX T (lo scr o1 p a b c d e f o6 o7 (some (NQ x)) o9 o10 o11) S := by
  unfold t_law_0_8 lo
  walk_at "dl"
  refine ⟨sz3, a, b, c, d, e, f, x, rfl, t, bx, fun S' sb z => ?_, fun q S' nq sb hq n1 n2 n3 => ?_⟩
  · exact h _ _ _ _ _ _ S' (fun z o e => sb z o (s0 z o e))
  · dsimp only
    have nb0 : nonB (D.ref q) = false := rfl
    rw [if_pos nb0]
    have hr : rdAt S' q = some [NQ (evQ a x / evQ b x), NQ (evQ c x / evQ d x), NQ (evQ e x / evQ f x)] := rdAt_of (lstAt_iff.mpr hq)
    have e0 : ix [NQ (evQ a x / evQ b x), NQ (evQ c x / evQ d x), NQ (evQ e x / evQ f x)] 0 = some (NQ (evQ a x / evQ b x)) := rfl
    have e1 : ix [NQ (evQ a x / evQ b x), NQ (evQ c x / evQ d x), NQ (evQ e x / evQ f x)] 1 = some (NQ (evQ c x / evQ d x)) := rfl
    have e2 : ix [NQ (evQ a x / evQ b x), NQ (evQ c x / evQ d x), NQ (evQ e x / evQ f x)] 2 = some (NQ (evQ e x / evQ f x)) := rfl
    simp only [oIx_r, hr, e0, e1, e2]
    refine call_timesR (wr t.x bx n1) (wr t.y bx n2) (by decide) ?_
    simp only [oIx_r, hr, e0, e1, e2]
    refine call_plusR ((wr t.x bx n1).mul (wr t.y bx n2) (Nat.le_refl _)) (wr t.z bx n3) (by decide) ?_
    refine cl_times 1800 t.x t.y fun u1 v1 k1 q1 => ?_
    refine cl_plus 3000 q1 t.z fun u2 v2 k2 q2 => ?_
    obtain ⟨m, w⟩ := sum_worth n1 n2 n3 k1 k2
    refine cl_worth q2 bx (fun z => absurd z m) fun _ => ?_
    rw [oNe_qq, decide_eq_true w]
    exact h _ _ _ _ _ _ S' (fun z o e => sb z o (s0 z o e))
theorem run_7 (t : Tri a b c d e f) (s0 : Sub S0 S) (hp : Purse S p) (np : S0 p = none) (h : ∀ o6 o7 o8 o9 o10 o11 S', Sub S0 S' → T.nx (lo scr o1 p a b c d e f o6 o7 o8 o9 o10 o11) S') : t_law_0_7 C EX T (lo scr o1 p a b c d e f o6 o7 o8 o9 o10 o11) S := by
  unfold t_law_0_7 lo
  walk_at "dl"
  rw [e6]
  exact ⟨⟨by decide, by decide, by decide⟩, hp, by decide, by decide, fun x S5 bx b5 hp5 => run_8 t (bx 40 (by decide) (by decide)) (s0.but np b5) h⟩
theorem run_63 (t : Tri a b c d e f) (nc : c ≠ []) (s0 : Sub S0 S) (hp : Purse S p) (np : S0 p = none) {u1 v1 u2 v2 u3 v3 u4 v4 u5 v5 u6 v6 : List Int} (k1 : FormOk (pmul a d) (pmul b c) u1 v1) (q1 : Qs 6 1800 u1 v1) (k2 : FormOk (slopeT a b) (pmul b b) u2 v2) (k3 : FormOk (pmul u2 c) (pmul v2 d) u3 v3) (k4 : FormOk (slopeT c d) (pmul d d) u4 v4) (k5 : FormOk (pmul a u4) (pmul b v4) u5 v5) (k6 : FormOk (psubI (pmul u3 v5) (pmul u5 v3)) (pmul v3 v5) u6 v6) (q6 : Qs 18 6600 u6 v6)
    (h : T.nx (lo scr o1 p a b c d e f (some (QT u1 v1)) (some (QT u6 v6)) o8 o9 o10 o11) S) : t_law_0_6t_3 C EX T (lo scr o1 p a b c d e f (some (QT u1 v1)) (some (QT u6 v6)) o8 o9 o10 o11) S := by
  unfold t_law_0_6t_3 lo
  walk_at "dl"
  have np4 : pmul (pmul (pmul b d) f) c ≠ [] := pmul_ne (pmul_trim _ _) t.y.f.tt t.np nc
  have split : ∀ s, (ev (pmul (pmul (pmul b d) f) c) s : Rat) ≠ 0 → (ev b s : Rat) ≠ 0 ∧ (ev d s : Rat) ≠ 0 ∧ (ev c s : Rat) ≠ 0 := fun s hs => by
    rw [ev_pmul] at hs
    push_cast at hs
    have := at_three (b := b) (d := d) (f := f) (s := s) (fun z => hs (by rw [z]; grind))
    exact ⟨this.1, this.2.1, fun z => hs (by rw [z]; grind)⟩
  have ny : ∀ s, (ev c s : Rat) ≠ 0 → (ev d s : Rat) ≠ 0 → (ev c s : Rat) / ev d s ≠ 0 := fun s n1 n2 => by
    generalize (ev c s : Rat) = x at *
    generalize (ev d s : Rat) = y at *
    grind
  refine cl_slope 4200 q1 fun u7 v7 k7 q7 => ?_
  refine cl_times 1800 t.y t.y fun u8 v8 k8 q8 => ?_
  have n8 : u8 ≠ [] := by
    rintro rfl
    obtain ⟨s, hs⟩ := ne_worth (pmul_trim _ _) np4
    obtain ⟨hb, hd, hc⟩ := split s (by exact_mod_cast hs)
    have w := ((At.base hd).times (At.base hd) k8).w
    have n := ny s hc hd
    have e0 : ev [] s = 0 := rfl
    rw [e0] at w
    push_cast at w
    generalize (ev c s : Rat) / ev d s = y at *
    generalize (ev v8 s : Rat) = v at *
    have : y * y ≠ 0 := by intro z; rcases Rat.mul_eq_zero.mp z with z | z <;> exact n z
    grind
  refine cl_over 9000 q6 q8 n8 fun u9 v9 k9 q9 => ?_
  obtain ⟨rfl, rfl⟩ := form_eq q7.f q9.f (pmul_trim _ _) np4 fun s hs => by
    obtain ⟨hb, hd, hc⟩ := split s hs
    have n := ny s hc hd
    obtain ⟨_, r7⟩ := ((At.base hb).over (At.base hd) n k1).slope k7
    obtain ⟨_, r2⟩ := (At.base hb).slope k2
    obtain ⟨_, r4⟩ := (At.base hd).slope k4
    have r6 := (r2.times (At.base hd) k3).minus ((At.base hb).times r4 k5) k6
    have r8 := (At.base hd).times (At.base hd) k8
    have r9 := r6.over r8 (by intro z; rcases Rat.mul_eq_zero.mp z with z | z <;> exact n z) k9
    exact ⟨_, _, _, r7, r9⟩
  walk_at "dl"
  rw [if_neg (by simp)]
  exact h
theorem run_6 (t : Tri a b c d e f) (s0 : Sub S0 S) (hp : Purse S p) (np : S0 p = none) (h : ∀ o6 o7 o8 o9 o10 o11 S', Sub S0 S' → T.nx (lo scr o1 p a b c d e f o6 o7 o8 o9 o10 o11) S') : t_law_0_6 C EX T (lo scr o1 p a b c d e f o6 o7 o8 o9 o10 o11) S := by
  unfold t_law_0_6 lo
  walk_at "dl"
  refine ⟨sz0, ?_⟩
  by_cases nc : c = []
  · rw [if_neg (not_not_intro nc)]
    exact run_7 t s0 hp np h
  rw [if_pos nc]
  have np4 : pmul (pmul (pmul b d) f) c ≠ [] := pmul_ne (pmul_trim _ _) t.y.f.tt t.np nc
  have at4 : ∀ s, (ev (pmul (pmul (pmul b d) f) c) s : Rat) ≠ 0 → (ev b s : Rat) ≠ 0 ∧ (ev d s : Rat) ≠ 0 ∧ (ev c s : Rat) / ev d s ≠ 0 := fun s hs => by
    rw [ev_pmul] at hs
    push_cast at hs
    have h3 := at_three (b := b) (d := d) (f := f) (s := s) (fun z => hs (by rw [z]; grind))
    have n1 : (ev c s : Rat) ≠ 0 := fun z => hs (by rw [z]; grind)
    have n2 := h3.2.1
    refine ⟨h3.1, n2, ?_⟩
    clear h3 hs
    generalize (ev c s : Rat) = x at *
    generalize (ev d s : Rat) = y at *
    grind
  unfold t_law_0_6t_0
  walk_at "dl"
  refine cl_over 1800 t.x t.y nc fun u1 v1 k1 q1 => ?_
  unfold t_law_0_6t_1
  walk_at "dl"
  refine cl_times 3000 q1 t.y fun u2 v2 k2 q2 => ?_
  have e2 := form_eq q2.f t.x.f (pmul_trim _ _) np4 fun s hs => by
    obtain ⟨hb, hd, ny⟩ := at4 s hs
    exact ⟨_, _, _, at_cast (((At.base hb).over (At.base hd) ny k1).times (At.base hd) k2) (Rat.div_mul_cancel ny), At.base hb⟩
  walk_at "dl"
  rw [if_neg (by rw [e2.1, e2.2]; simp)]
  refine cl_over 1800 t.y t.y nc fun u3 v3 k3 q3 => ?_
  obtain ⟨rfl, rfl⟩ := form_eq q3.f form_11 (pmul_trim _ _) np4 fun s hs => by
    obtain ⟨hb, hd, ny⟩ := at4 s hs
    obtain ⟨_, r1⟩ := At.one s
    exact ⟨_, _, _, at_cast ((At.base hd).over (At.base hd) ny k3) (div_one_of ny), r1⟩
  walk_at "dl"
  refine ⟨sz1, sz1, sz2, ?_⟩
  rw [if_neg (by simp)]
  unfold t_law_0_6t_2
  walk_at "dl"
  refine cl_slope 1800 t.x fun u4 v4 k4 q4 => ?_
  refine cl_times 3000 q4 t.y fun u5 v5 k5 q5 => ?_
  refine cl_slope 1800 t.y fun u6 v6 k6 q6 => ?_
  refine cl_times 3000 t.x q6 fun u7 v7 k7 q7 => ?_
  refine cl_minus 6600 q5 q7 fun u8 v8 k8 q8 => ?_
  exact run_63 t nc s0 hp np k1 q1 k4 k5 k6 k7 k8 q8 (run_7 t s0 hp np h)
theorem run_5 (t : Tri a b c d e f) (s0 : Sub S0 S) (hp : Purse S p) (np : S0 p = none) (h : ∀ o6 o7 o8 o9 o10 o11 S', Sub S0 S' → T.nx (lo scr o1 p a b c d e f o6 o7 o8 o9 o10 o11) S') : t_law_0_5 C EX T (lo scr o1 p a b c d e f o6 o7 o8 o9 o10 o11) S := by
  unfold t_law_0_5 lo
  walk_at "dl"
  refine cl_times 1800 t.x t.y fun u1 v1 k1 q1 => ?_
  refine cl_slope 4200 q1 fun u2 v2 k2 q2 => ?_
  refine cl_slope 1800 t.x fun u3 v3 k3 q3 => ?_
  refine cl_times 3000 q3 t.y fun u4 v4 k4 q4 => ?_
  refine cl_slope 1800 t.y fun u5 v5 k5 q5 => ?_
  refine cl_times 3000 t.x q5 fun u6 v6 k6 q6 => ?_
  refine cl_plus 6600 q4 q6 fun u7 v7 k7 q7 => ?_
  obtain ⟨rfl, rfl⟩ := form_eq q2.f q7.f (pmul_trim _ _) t.np fun s hs => by
    obtain ⟨hb, hd, hf⟩ := at_three hs
    obtain ⟨_, r2⟩ := ((At.base hb).times (At.base hd) k1).slope k2
    obtain ⟨_, r3⟩ := (At.base hb).slope k3
    obtain ⟨_, r5⟩ := (At.base hd).slope k5
    exact ⟨_, _, _, r2, (r3.times (At.base hd) k4).plus ((At.base hb).times r5 k6) k7⟩
  walk_at "dl"
  rw [if_neg (by simp)]
  exact run_6 t s0 hp np h
theorem run_4 (t : Tri a b c d e f) (s0 : Sub S0 S) (hp : Purse S p) (np : S0 p = none) (h : ∀ o6 o7 o8 o9 o10 o11 S', Sub S0 S' → T.nx (lo scr o1 p a b c d e f o6 o7 o8 o9 o10 o11) S') : t_law_0_4 C EX T (lo scr o1 p a b c d e f o6 o7 o8 o9 o10 o11) S := by
  unfold t_law_0_4 lo
  walk_at "dl"
  refine cl_plus 1800 t.x t.y fun u1 v1 k1 q1 => ?_
  refine cl_slope 4200 q1 fun u2 v2 k2 q2 => ?_
  refine cl_slope 1800 t.x fun u3 v3 k3 q3 => ?_
  refine cl_slope 1800 t.y fun u5 v5 k5 q5 => ?_
  refine cl_plus 6600 q3 q5 fun u7 v7 k7 q7 => ?_
  obtain ⟨rfl, rfl⟩ := form_eq q2.f q7.f (pmul_trim _ _) t.np fun s hs => by
    obtain ⟨hb, hd, hf⟩ := at_three hs
    obtain ⟨_, r2⟩ := ((At.base hb).plus (At.base hd) k1).slope k2
    obtain ⟨_, r3⟩ := (At.base hb).slope k3
    obtain ⟨_, r5⟩ := (At.base hd).slope k5
    exact ⟨_, _, _, r2, r3.plus r5 k7⟩
  walk_at "dl"
  rw [if_neg (by simp)]
  exact run_5 t s0 hp np h
theorem run_3 (t : Tri a b c d e f) (s0 : Sub S0 S) (hp : Purse S p) (np : S0 p = none) (h : ∀ o6 o7 o8 o9 o10 o11 S', Sub S0 S' → T.nx (lo scr o1 p a b c d e f o6 o7 o8 o9 o10 o11) S') : t_law_0_3 C EX T (lo scr o1 p a b c d e f o6 o7 o8 o9 o10 o11) S := by
  unfold t_law_0_3 lo
  walk_at "dl"
  refine cl_minus 1800 t.x t.x fun u1 v1 k1 q1 => ?_
  obtain ⟨rfl, rfl⟩ := form_eq q1.f form_01 (pmul_trim _ _) t.np fun s hs => by
    obtain ⟨hb, hd, hf⟩ := at_three hs
    exact ⟨_, _, _, at_cast ((At.base hb).minus (At.base hb) k1) Rat.sub_self, At.zero s⟩
  walk_at "dl"
  refine ⟨sz0, sz1, sz2, ?_⟩
  rw [if_neg (by simp)]
  refine cl_minus 1800 t.x t.y fun u2 v2 k2 q2 => ?_
  refine cl_plus 3000 q2 t.y fun u3 v3 k3 q3 => ?_
  have e3 := form_eq q3.f t.x.f (pmul_trim _ _) t.np fun s hs => by
    obtain ⟨hb, hd, hf⟩ := at_three hs
    exact ⟨_, _, _, at_cast (((At.base hb).minus (At.base hd) k2).plus (At.base hd) k3) Rat.sub_add_cancel, At.base hb⟩
  walk_at "dl"
  rw [if_neg (by rw [e3.1, e3.2]; simp)]
  exact run_4 t s0 hp np h
theorem run_2 (t : Tri a b c d e f) (s0 : Sub S0 S) (hp : Purse S p) (np : S0 p = none) (h : ∀ o6 o7 o8 o9 o10 o11 S', Sub S0 S' → T.nx (lo scr o1 p a b c d e f o6 o7 o8 o9 o10 o11) S') : t_law_0_2 C EX T (lo scr o1 p a b c d e f o6 o7 o8 o9 o10 o11) S := by
  unfold t_law_0_2 lo
  walk_at "dl"
  refine cl_plus 1800 t.x t.y fun u1 v1 k1 q1 => ?_
  refine cl_times 3000 q1 t.z fun u2 v2 k2 q2 => ?_
  refine cl_times 1800 t.x t.z fun u3 v3 k3 q3 => ?_
  refine cl_times 1800 t.y t.z fun u4 v4 k4 q4 => ?_
  refine cl_plus 4200 q3 q4 fun u5 v5 k5 q5 => ?_
  obtain ⟨rfl, rfl⟩ := form_eq q2.f q5.f (pmul_trim _ _) t.np fun s hs => by
    obtain ⟨hb, hd, hf⟩ := at_three hs
    exact ⟨_, _, _, ((At.base hb).plus (At.base hd) k1).times (At.base hf) k2, at_cast (((At.base hb).times (At.base hf) k3).plus ((At.base hd).times (At.base hf) k4) k5) (Rat.add_mul _ _ _).symm⟩
  walk_at "dl"
  rw [if_neg (by simp)]
  exact run_3 t s0 hp np h
end
theorem e3 : irng 0 (Int.toNat 3) = [.int 0, .int 1, .int 2] := rfl
theorem Tri.q {t b u v : List Int} (tt : Trim t) (tb : Trim b) (nb : b ≠ []) (lt : (t.length : Int) ≤ 3 ∨ t.length ≤ 1) (lb : (b.length : Int) ≤ 3 ∨ b.length ≤ 1) (dt : Drawn 1000000000 t) (db : Drawn 1000000000 b ∨ Drawn 10 b) (ok : FormOk t b u v) : Qs 3 600 u v :=
  Qs.of (n := 40) ok tt tb nb (by omega) (by omega) (dt.bits (by decide) (by decide)) (by rcases db with db | db; exact db.bits (by decide) (by decide); exact db.bits (by decide) (by decide)) (by decide)
theorem turn {C : Cs} (ns : List Int) (hn : ns.length ≤ 63) : Turns1 ns 10 (t_law_0_0 C) := by
  intro EX T k rest S h0 h1 hr nx
  match rest, hr with
  | [o2, o3, o4, o5, o6, o7, o8, o9, o10, o11], _ =>
  unfold t_law_0_0
  simp only [sSeq, sSet, eCall, aCons, aNil, eVar, List.getElem?_cons_zero, List.getElem?_cons_succ, List.append_nil]
  refine call_purse hn h0 h1 fun p S1 np b1 hp1 => ?_
  unfold t_law_0_1
  simp only [sSeq, sAsg, eLc, iRange1, aCons, aNil, eC, List.set_cons_zero, List.set_cons_succ]
  rw [e3]
  refine ⟨by decide, by decide, fun q nq => ?_⟩
  have hqp : q ≠ p := by rintro rfl; obtain ⟨x, y, z, e, _⟩ := hp1; rw [nq] at e; cases e
  have nqS : S q = none := (But.sub np b1).free nq
  have one : ∀ (v : D) (S' : Sto) (Q' : DK), Purse S' p → (∀ (a b : List Int) S'', Qs 3 600 a b → But p S' S'' → Purse S'' p → Q' (QT a b) S'') →
      eCall sp_lquotient [] (aCons (eVar 2) (aCons (eC (.int 3)) (aCons (eBin oPow (eC (.int 10)) (eC (.int 9))) aNil))) EX0 [some (.ltv (ns.map D.int)), some (.int k), some (.ref p), o3, o4, o5, o6, o7, o8, o9, o10, some v] S' Q' := by
    intro v S' Q' hp' kk
    walk_at "dl"
    rw [e9]
    refine ⟨⟨by decide, by decide, by decide⟩, hp', by decide, by decide, by decide, by decide, fun t b u w S'' tt tb nb lt lb dt db ok bp hp'' => kk u w S'' (Tri.q tt tb nb lt lb dt db ok) bp hp''⟩
  have s0 : ∀ b o, b ≠ p → b ≠ q → S b = some o → sup S1 q (.lst []) b = some o := fun b o hb hq e => by rw [sup_ne hq, b1 b hb]; exact e
  refine ⟨trivial, one _ _ _ (hp1.other hqp.symm) fun a b S2 qa b2 hp2 => ⟨[], by rw [b2 q hqp]; exact sup_same, sz0', ?_⟩⟩
  refine ⟨trivial, one _ _ _ (hp2.other hqp.symm) fun c d S3 qc b3 hp3 => ⟨[QT a b], by rw [b3 q hqp]; exact sup_same, sz1', ?_⟩⟩
  refine ⟨trivial, one _ _ _ (hp3.other hqp.symm) fun e f S4 qe b4 hp4 => ⟨[QT a b, QT c d], by rw [b4 q hqp]; exact sup_same, sz2', trivial, ?_⟩⟩
  have s4 : Sub S (sup S4 q (.lst ([QT a b, QT c d] ++ [QT e f]))) := fun z o ez => by
    have hz : z ≠ q := by rintro rfl; rw [nqS] at ez; cases ez
    have hzp : z ≠ p := by rintro rfl; rw [np] at ez; cases ez
    rw [sup_ne hz, b4 z hzp, sup_ne hz, b3 z hzp, sup_ne hz, b2 z hzp]
    exact s0 z o hzp hz ez
  have hp4' : Purse (sup S4 q (.lst ([QT a b, QT c d] ++ [QT e f]))) p := hp4.other hqp.symm
  refine ⟨_, .inl sup_same, rfl, ?_⟩
  exact run_2 ⟨qa, qc, qe⟩ s4 hp4' np fun o6 o7 o8 o9 o10 o11 S' ss => nx [_, _, _, _, _, _, _, _, _, _] S' rfl ss
theorem sem_law {C : Cs} : ∀ ds S Q E, sp_law ds S Q E → t_law C (bodyEX E) (bodyEnds Q) (dstart ["_law_script", "_law_k", "_law_purse_here", "_law_one", "_law_other", "_law_third", "_law_share_of_both", "_law_left_here", "_law_at", "_law_worths_here", "_law_due", "_law_again"] ds) S :=
  frame_law (m := 10) (by decide) (by decide) turn rfl
end K12
end DL
end L2

/-! law_k12_whole_rules_of_quotients: the text of the law, tied to its promises. -/
namespace L2
namespace DL
open PySem PySem.Spec PyProof PyProof.Rows
namespace K12
def tp (i : Nat) : Stmt := PySem.Challenge.pw_slopeverdict_k12_whole_rules_of_quotient.main.body.getD i (.Pass ⟨0, 0, 0, 0⟩)
structure Tx (K : PySem.W.Frag) (mg : Str → Option Value) (C : Cs) : Prop where
  x_NoNumber : ExK K mg "NoNumber" C.nn
  x_NoPlace : ExK K mg "NoPlace" C.np
  g_NoPlace : mg "NoPlace" = some (.ref C.np)
  n_NoPlace : PySem.W.exmOne K (.ref C.np) (.ref C.np) = some true
  kt_NOUGHT : KT K mg "NOUGHT" (.tup [(.tup []), (.tup [(.int 1)])])
section
variable {P : Program} {w : World} {K : PySem.W.Frag} {mg : Str → Option Value} {base : Heap} {C : Cs}
abbrev s__law_many : Stmt := tp 57
theorem sc__law_many : FnScope ["_law_script", "_law_most"] ["_law_script", "_law_most"] (defScope s__law_many) := ⟨rfl, rfl, rfl, by decide +kernel, rfl, by decide +kernel, by decide +kernel⟩
theorem ok__law_many {f : Addr} {fd : FuncData} (B : BT mg) (V : Env P base) (T : Tx K mg C) (F : TxD K "_law_many" "_law_many" s__law_many f fd)  : FnOk P w K mg base (L2.CX P w) 33 f fd ["_law_script", "_law_most"] (upF K sp_many) :=
  fnok_of (tb := t__law_many) F sc__law_many (by rintro _ _ _ _ ⟨_, _, rfl, _⟩; rfl) (fun cdv A outer s H E hr =>
  (ib_one (is_ret (ie_lstRg1 rfl B.list B.range (ie_callB (ic_max rfl) B.max (ia_cons ie_int (ia_cons (ie_callB (ic_min rfl) B.min (ia_cons (ie_var 1) (ia_cons (ie_callB ic_len B.len (ia_cons (ie_var 0) ia_nil)) ia_nil))) ia_nil))))))) sem__law_many
abbrev s__law_draw : Stmt := tp 40
theorem sc__law_draw : FnScope ["_law_purse_here", "_law_many_here", "_law_digit", "_law_primes", "_law_found", "_law_room"] ["_law_purse_here", "_law_many_here"] (defScope s__law_draw) := ⟨rfl, rfl, rfl, by decide +kernel, rfl, by decide +kernel, by decide +kernel⟩
theorem ok__law_draw {f : Addr} {fd : FuncData} (B : BT mg) (V : Env P base) (T : Tx K mg C) (F : TxD K "_law_draw" "_law_draw" s__law_draw f fd)  : FnOk P w K mg base (L2.CX P w) 33 f fd ["_law_purse_here", "_law_many_here"] (upF K sp_draw) :=
  fnok_of (tb := t__law_draw) F sc__law_draw (by rintro _ _ _ _ ⟨_, _, rfl, _⟩; rfl) (fun cdv A outer s H E hr =>
  (ib_cons (is_if (it_cmp io_gt (ie_ix (ie_var 0) ie_int) ie_int) (ib_cons (is_set 2 sc__law_draw.nd (ie_bin io_mod (ie_ix (ie_var 0) ie_int) (ie_var 1)))
  (ib_cons (is_asg (ie_bin (io_fdiv (seer_cx V sc__law_draw hr (by decide))) (ie_ix (ie_var 0) ie_int) (ie_var 1)) (ig_sub (ie_var 0) ie_int ist_set))
  (ib_one (is_ret (ie_var 2))))) ib_nil)
  (ib_cons (is_set 3 sc__law_draw.nd (ie_tup (ia_cons ie_int (ia_cons ie_int (ia_cons ie_int (ia_cons ie_int (ia_cons ie_int (ia_cons ie_int (ia_cons ie_int (ia_cons ie_int (ia_cons ie_int (ia_cons ie_int (ia_cons ie_int ia_nil)))))))))))))
  (ib_cons (is_set 4 sc__law_draw.nd ie_int)
  (ib_cons (is_set 5 sc__law_draw.nd ie_int)
  (ib_cons (is_while (passes_of rfl) (it_cmp io_lt (ie_var 5) (ie_bin io_mul (ie_var 1) ie_int)) (ib_cons (is_asg (ie_bin io_mod (ie_bin io_add (ie_bin io_mul (ie_ix (ie_var 0) ie_int) ie_int) ie_int) ie_int) (ig_sub (ie_var 0) ie_int ist_set))
  (ib_cons (is_asg (ie_bin io_mod (ie_bin io_add (ie_ix (ie_var 0) ie_int) ie_int) ie_int) (ig_sub (ie_var 0) ie_int ist_set))
  (ib_cons (is_set 4 sc__law_draw.nd (ie_bin io_add (ie_bin io_mul (ie_var 4) ie_int) (ie_bin io_mod (ie_bin io_pow (ie_ix (ie_var 0) ie_int) ie_int) (ie_ix (ie_var 3) (ie_ix (ie_var 0) ie_int)))))
  (ib_one (is_set 5 sc__law_draw.nd (ie_bin io_mul (ie_var 5) ie_int)))))))
  (ib_one (is_ret (ie_bin io_mod (ie_var 4) (ie_var 1)))))))))) sem__law_draw
abbrev s__law_divisor : Stmt := tp 41
theorem sc__law_divisor : FnScope ["_law_one", "_law_other"] ["_law_one", "_law_other"] (defScope s__law_divisor) := ⟨rfl, rfl, rfl, by decide +kernel, rfl, by decide +kernel, by decide +kernel⟩
theorem ok__law_divisor {f : Addr} {fd : FuncData} (B : BT mg) (V : Env P base) (T : Tx K mg C) (F : TxD K "_law_divisor" "_law_divisor" s__law_divisor f fd)  : FnOk P w K mg base (L2.CX P w) 33 f fd ["_law_one", "_law_other"] (upF K sp_divisor) :=
  fnok_of (tb := t__law_divisor) F sc__law_divisor (by rintro _ _ _ _ ⟨_, _, rfl, _⟩; rfl) (fun cdv A outer s H E hr =>
  (ib_cons (is_par 0 1 rfl sc__law_divisor.nd (ie_callB ic_abs B.abs (ia_cons (ie_var 0) ia_nil)) (ie_callB ic_abs B.abs (ia_cons (ie_var 1) ia_nil)))
  (ib_cons (is_while (passes_of rfl) (it_cmp io_gt (ie_var 1) ie_int) (ib_one (is_par 0 1 rfl sc__law_divisor.nd (ie_var 1) (ie_bin io_mod (ie_var 0) (ie_var 1)))))
  (ib_one (is_ret (ie_var 0)))))) sem__law_divisor
abbrev s__law_low : Stmt := tp 42
theorem sc__law_low : FnScope ["_law_top", "_law_bottom", "_law_part"] ["_law_top", "_law_bottom"] (defScope s__law_low) := ⟨rfl, rfl, rfl, by decide +kernel, rfl, by decide +kernel, by decide +kernel⟩
theorem ok__law_low {f : Addr} {fd : FuncData} (B : BT mg) (V : Env P base) (T : Tx K mg C) (F : TxD K "_law_low" "_law_low" s__law_low f fd) (F__law_divisor : FnD P w K mg base 33 "_law_divisor" [] sp_divisor) : FnOk P w K mg base (L2.CX P w) 34 f fd ["_law_top", "_law_bottom"] (upF K sp_low) :=
  fnok_of (tb := t__law_low) F sc__law_low (by rintro _ _ _ _ ⟨_, _, rfl, _⟩; rfl) (fun cdv A outer s H E hr =>
  (ib_cons (is_set 2 sc__law_low.nd (ie_call F__law_divisor (hr.mono (by decide)) (ia_cons (ie_var 0) (ia_cons (ie_var 1) ia_nil))))
  (ib_cons (is_if (it_cmp io_lt (ie_var 1) ie_int) (ib_one (is_set 2 sc__law_low.nd (ie_un io_neg (ie_var 2)))) ib_nil)
  (ib_one (is_ret (ie_tup (ia_cons (ie_bin (io_fdiv (seer_cx V sc__law_low hr (by decide))) (ie_var 0) (ie_var 2)) (ia_cons (ie_bin (io_fdiv (seer_cx V sc__law_low hr (by decide))) (ie_var 1) (ie_var 2)) ia_nil)))))))) sem__law_low
abbrev s__law_whole : Stmt := tp 43
theorem sc__law_whole : FnScope ["_law_purse_here", "_law_most", "_law_way"] ["_law_purse_here", "_law_most"] (defScope s__law_whole) := ⟨rfl, rfl, rfl, by decide +kernel, rfl, by decide +kernel, by decide +kernel⟩
theorem ok__law_whole {f : Addr} {fd : FuncData} (B : BT mg) (V : Env P base) (T : Tx K mg C) (F : TxD K "_law_whole" "_law_whole" s__law_whole f fd) (F__law_draw : FnD P w K mg base 33 "_law_draw" [] sp_draw) : FnOk P w K mg base (L2.CX P w) 34 f fd ["_law_purse_here", "_law_most"] (upF K sp_whole) :=
  fnok_of (tb := t__law_whole) F sc__law_whole (by rintro _ _ _ _ ⟨_, _, rfl, _⟩; rfl) (fun cdv A outer s H E hr =>
  (ib_cons (is_set 2 sc__law_whole.nd (ie_call F__law_draw (hr.mono (by decide)) (ia_cons (ie_var 0) (ia_cons ie_int ia_nil))))
  (ib_cons (is_if (it_cmp (io_eq hr.units) (ie_var 2) ie_int) (ib_one (is_ret ie_int)) ib_nil)
  (ib_cons (is_if (it_cmp (io_eq hr.units) (ie_var 2) ie_int) (ib_one (is_ret (ie_bin io_add (ie_bin io_sub (ie_call F__law_draw (hr.mono (by decide)) (ia_cons (ie_var 0) (ia_cons (ie_bin io_sub (ie_bin io_mul ie_int (ie_var 1)) ie_int) ia_nil))) (ie_var 1)) ie_int))) ib_nil)
  (ib_one (is_ret (ie_bin io_sub (ie_call F__law_draw (hr.mono (by decide)) (ia_cons (ie_var 0) (ia_cons ie_int ia_nil))) ie_int))))))) sem__law_whole
abbrev s__law_number : Stmt := tp 55
theorem sc__law_number : FnScope ["_law_purse_here", "_law_most", "_law_bottom"] ["_law_purse_here", "_law_most"] (defScope s__law_number) := ⟨rfl, rfl, rfl, by decide +kernel, rfl, by decide +kernel, by decide +kernel⟩
theorem ok__law_number {f : Addr} {fd : FuncData} (B : BT mg) (V : Env P base) (T : Tx K mg C) (F : TxD K "_law_number" "_law_number" s__law_number f fd) (F__law_draw : FnD P w K mg base 33 "_law_draw" [] sp_draw) (F__law_low : FnD P w K mg base 34 "_law_low" [] sp_low) (F__law_whole : FnD P w K mg base 34 "_law_whole" [] sp_whole) : FnOk P w K mg base (L2.CX P w) 35 f fd ["_law_purse_here", "_law_most"] (upF K sp_lnumber) :=
  fnok_of (tb := t__law_number) F sc__law_number (by rintro _ _ _ _ ⟨_, _, rfl, _⟩; rfl) (fun cdv A outer s H E hr =>
  (ib_cons (is_set 2 sc__law_number.nd (ie_bin io_add ie_int (ie_call F__law_draw (hr.mono (by decide)) (ia_cons (ie_var 0) (ia_cons ie_int ia_nil)))))
  (ib_cons (is_if (it_cmp (io_eq hr.units) (ie_call F__law_draw (hr.mono (by decide)) (ia_cons (ie_var 0) (ia_cons ie_int ia_nil))) ie_int) (ib_one (is_set 2 sc__law_number.nd (ie_bin io_add ie_int (ie_call F__law_draw (hr.mono (by decide)) (ia_cons (ie_var 0) (ia_cons (ie_bin io_sub (ie_var 1) ie_int) ia_nil)))))) ib_nil)
  (ib_one (is_ret (ie_call F__law_low (hr.mono (by decide)) (ia_cons (ie_call F__law_whole (hr.mono (by decide)) (ia_cons (ie_var 0) (ia_cons (ie_var 1) ia_nil))) (ia_cons (ie_var 2) ia_nil)))))))) sem__law_number
abbrev s__law_purse : Stmt := tp 39
theorem sc__law_purse : FnScope ["_law_script", "_law_at", "_law_cell", "_law_mix", "_law_k"] ["_law_script", "_law_at"] (defScope s__law_purse) := ⟨rfl, rfl, rfl, by decide +kernel, rfl, by decide +kernel, by decide +kernel⟩
theorem ok__law_purse {f : Addr} {fd : FuncData} (B : BT mg) (V : Env P base) (T : Tx K mg C) (F : TxD K "_law_purse" "_law_purse" s__law_purse f fd)  : FnOk P w K mg base (L2.CX P w) 33 f fd ["_law_script", "_law_at"] (upF K sp_purse) :=
  fnok_of (tb := t__law_purse) F sc__law_purse (by rintro _ _ _ _ ⟨_, _, rfl, _⟩; rfl) (fun cdv A outer s H E hr =>
  (ib_cons (is_set 2 sc__law_purse.nd ie_int)
  (ib_cons (is_if (it_cmp io_lt (ie_var 1) (ie_callB ic_len B.len (ia_cons (ie_var 0) ia_nil))) (ib_one (is_set 2 sc__law_purse.nd (ie_callB ic_abs B.abs (ia_cons (ie_ix (ie_var 0) (ie_var 1)) ia_nil)))) ib_nil)
  (ib_cons (is_set 3 sc__law_purse.nd (ie_bin io_add ie_int (ie_bin io_mul ie_int (ie_var 1))))
  (ib_cons (is_for (passes_of rfl) rfl (ii_range1 B.range (ia_cons (ie_callB (ic_min rfl) B.min (ia_cons (ie_callB ic_len B.len (ia_cons (ie_var 0) ia_nil)) (ia_cons ie_int ia_nil))) ia_nil)) (ig_name 4 sc__law_purse.nd) (ib_one (is_set 3 sc__law_purse.nd (ie_bin io_mod (ie_bin io_add (ie_bin io_add (ie_bin io_pow (ie_var 3) ie_int) (ie_bin io_mod (ie_ix (ie_var 0) (ie_var 4)) ie_int)) (ie_var 4)) ie_int))))
  (ib_cons (is_if (it_cmp io_lt (ie_var 2) (ie_bin io_pow ie_int ie_int)) (ib_one (is_set 2 sc__law_purse.nd (ie_bin io_pow ie_int ie_int))) ib_nil)
  (ib_one (is_ret (ie_lst (ia_cons (ie_bin io_sub (ie_var 2) (ie_bin io_pow ie_int ie_int)) (ia_cons (ie_var 3) (ia_cons (ie_bin io_mod (ie_var 1) ie_int) ia_nil)))))))))))) sem__law_purse
abbrev s__law_plain : Stmt := tp 48
theorem sc__law_plain : FnScope ["_law_one", "_law_part", "_law_entry"] ["_law_one"] (defScope s__law_plain) := ⟨rfl, rfl, rfl, by decide +kernel, rfl, by decide +kernel, by decide +kernel⟩
theorem ok__law_plain {f : Addr} {fd : FuncData} (B : BT mg) (V : Env P base) (T : Tx K mg C) (F : TxD K "_law_plain" "_law_plain" s__law_plain f fd) (F__law_divisor : FnD P w K mg base 33 "_law_divisor" [] sp_divisor) : FnOk P w K mg base (L2.CX P w) 34 f fd ["_law_one"] (upF K sp_plain) :=
  fnok_of (tb := t__law_plain) F sc__law_plain (by rintro _ _ _ _ ⟨_, rfl, _⟩; rfl) (fun cdv A outer s H E hr =>
  (ib_cons (is_set 1 sc__law_plain.nd ie_int)
  (ib_cons (is_for (passes_of rfl) rfl (ii_tup (ie_var 0)) (ig_name 2 sc__law_plain.nd) (ib_one (is_set 1 sc__law_plain.nd (ie_call F__law_divisor (hr.mono (by decide)) (ia_cons (ie_var 1) (ia_cons (ie_var 2) ia_nil))))))
  (ib_cons (is_if (it_w (iw_and (it_cmp (io_ne hr.units) (ie_var 0) (ie_tup ia_nil)) (iw_and1 (it_cmp io_lt (ie_ix (ie_var 0) (ie_un io_neg ie_int)) ie_int)))) (ib_one (is_set 1 sc__law_plain.nd (ie_un io_neg (ie_var 1)))) ib_nil)
  (ib_one (is_ret (ie_callTy ic_tuple B.tuple (ia_cons (ie_lc [("_law_entry", 2)] rfl sc__law_plain.nd (ii_tup (ie_var 0)) (fun _ => (igc_name 2 sc__law_plain.nd)) (fun _ => its_nil) (fun _ => (ie_bin (io_fdiv (seer_cx V sc__law_plain hr (by decide)).bk) (ie_var 2) (ie_var 1))) (ok := blkOk_by (N := ["_law_one", "_law_part", "_law_entry"]) (sc := defScope s__law_plain) (by decide +kernel))) ia_nil)))))))) sem__law_plain
abbrev s__law_cut : Stmt := tp 45
theorem sc__law_cut : FnScope ["_law_line", "_law_many_here"] ["_law_line"] (defScope s__law_cut) := ⟨rfl, rfl, rfl, by decide +kernel, rfl, by decide +kernel, by decide +kernel⟩
theorem ok__law_cut {f : Addr} {fd : FuncData} (B : BT mg) (V : Env P base) (T : Tx K mg C) (F : TxD K "_law_cut" "_law_cut" s__law_cut f fd)  : FnOk P w K mg base (L2.CX P w) 33 f fd ["_law_line"] (upF K sp_cut) :=
  fnok_of (tb := t__law_cut) F sc__law_cut (by rintro _ _ _ _ ⟨_, _, rfl, _⟩; rfl) (fun cdv A outer s H E hr =>
  (ib_cons (is_set 1 sc__law_cut.nd (ie_callB ic_len B.len (ia_cons (ie_var 0) ia_nil)))
  (ib_cons (is_while (passes_of rfl) (it_w (iw_and (it_cmp io_gt (ie_var 1) ie_int) (iw_and1 (it_cmp (io_eq hr.units) (ie_ix (ie_var 0) (ie_bin io_sub (ie_var 1) ie_int)) ie_int)))) (ib_one (is_aug 1 sc__law_cut.nd io_isub ie_int)))
  (ib_one (is_ret (ie_callTy ic_tuple B.tuple (ia_cons (ie_sl (ie_var 0) ip_none (ip_some (ie_var 1))) ia_nil))))))) sem__law_cut
abbrev s__law_product : Stmt := tp 47
theorem sc__law_product : FnScope ["_law_one", "_law_other", "_law_found", "_law_k", "_law_j"] ["_law_one", "_law_other"] (defScope s__law_product) := ⟨rfl, rfl, rfl, by decide +kernel, rfl, by decide +kernel, by decide +kernel⟩
theorem ok__law_product {f : Addr} {fd : FuncData} (B : BT mg) (V : Env P base) (T : Tx K mg C) (F : TxD K "_law_product" "_law_product" s__law_product f fd) (F__law_cut : FnD P w K mg base 33 "_law_cut" [] sp_cut) : FnOk P w K mg base (L2.CX P w) 34 f fd ["_law_one", "_law_other"] (upF K sp_lproduct) :=
  fnok_of (tb := t__law_product) F sc__law_product (by rintro _ _ _ _ ⟨_, _, rfl, _⟩; rfl) (fun cdv A outer s H E hr =>
  (ib_cons (is_set 2 sc__law_product.nd (ie_bin io_mul (ie_lst (ia_cons ie_int ia_nil)) (ie_bin io_add (ie_callB ic_len B.len (ia_cons (ie_var 0) ia_nil)) (ie_callB ic_len B.len (ia_cons (ie_var 1) ia_nil)))))
  (ib_cons (is_for (passes_of rfl) rfl (ii_range1 B.range (ia_cons (ie_callB ic_len B.len (ia_cons (ie_var 0) ia_nil)) ia_nil)) (ig_name 3 sc__law_product.nd) (ib_one (is_for (passes_of rfl) rfl (ii_range1 B.range (ia_cons (ie_callB ic_len B.len (ia_cons (ie_var 1) ia_nil)) ia_nil)) (ig_name 4 sc__law_product.nd) (ib_one (is_augS (ie_var 2) (ie_bin io_add (ie_var 3) (ie_var 4)) (ie_bin io_mul (ie_ix (ie_var 0) (ie_var 3)) (ie_ix (ie_var 1) (ie_var 4))) io_iadd)))))
  (ib_one (is_ret (ie_call F__law_cut (hr.mono (by decide)) (ia_cons (ie_var 2) ia_nil))))))) sem__law_product
abbrev s__law_sum : Stmt := tp 46
theorem sc__law_sum : FnScope ["_law_one", "_law_other", "_law_often", "_law_many_here", "_law_left_here", "_law_right", "_law_k"] ["_law_one", "_law_other", "_law_often"] (defScope s__law_sum) := ⟨rfl, rfl, rfl, by decide +kernel, rfl, by decide +kernel, by decide +kernel⟩
theorem ok__law_sum {f : Addr} {fd : FuncData} (B : BT mg) (V : Env P base) (T : Tx K mg C) (F : TxD K "_law_sum" "_law_sum" s__law_sum f fd) (F__law_cut : FnD P w K mg base 33 "_law_cut" [] sp_cut) : FnOk P w K mg base (L2.CX P w) 34 f fd ["_law_one", "_law_other", "_law_often"] (upF K sp_lsum) :=
  fnok_of (tb := t__law_sum) F sc__law_sum (by rintro _ _ _ _ ⟨_, _, _, rfl, _⟩; rfl) (fun cdv A outer s H E hr =>
  (ib_cons (is_set 3 sc__law_sum.nd (ie_callB (ic_max rfl) B.max (ia_cons (ie_callB ic_len B.len (ia_cons (ie_var 0) ia_nil)) (ia_cons (ie_callB ic_len B.len (ia_cons (ie_var 1) ia_nil)) ia_nil))))
  (ib_cons (is_set 4 sc__law_sum.nd (ie_bin io_add (ie_callTy ic_list B.list (ia_cons (ie_var 0) ia_nil)) (ie_bin io_mul (ie_lst (ia_cons ie_int ia_nil)) (ie_bin io_sub (ie_var 3) (ie_callB ic_len B.len (ia_cons (ie_var 0) ia_nil))))))
  (ib_cons (is_set 5 sc__law_sum.nd (ie_bin io_add (ie_callTy ic_list B.list (ia_cons (ie_var 1) ia_nil)) (ie_bin io_mul (ie_lst (ia_cons ie_int ia_nil)) (ie_bin io_sub (ie_var 3) (ie_callB ic_len B.len (ia_cons (ie_var 1) ia_nil))))))
  (ib_one (is_ret (ie_call F__law_cut (hr.mono (by decide)) (ia_cons (ie_lc [("_law_k", 6)] rfl sc__law_sum.nd (ii_range1 B.range (ia_cons (ie_var 3) ia_nil)) (fun _ => (igc_name 6 sc__law_sum.nd)) (fun _ => its_nil) (fun _ => (ie_bin io_add (ie_ix (ie_var 4) (ie_var 6)) (ie_bin io_mul (ie_var 2) (ie_ix (ie_var 5) (ie_var 6))))) (ok := blkOk_by (N := ["_law_one", "_law_other", "_law_often", "_law_many_here", "_law_left_here", "_law_right", "_law_k"]) (sc := defScope s__law_sum) (by decide +kernel))) ia_nil)))))))) sem__law_sum
abbrev s__law_left : Stmt := tp 49
theorem sc__law_left : FnScope ["_law_one", "_law_other", "_law_shift", "_law_head"] ["_law_one", "_law_other"] (defScope s__law_left) := ⟨rfl, rfl, rfl, by decide +kernel, rfl, by decide +kernel, by decide +kernel⟩
theorem ok__law_left {f : Addr} {fd : FuncData} (B : BT mg) (V : Env P base) (T : Tx K mg C) (F : TxD K "_law_left" "_law_left" s__law_left f fd) (F__law_plain : FnD P w K mg base 34 "_law_plain" [] sp_plain) (F__law_product : FnD P w K mg base 34 "_law_product" [] sp_lproduct) (F__law_sum : FnD P w K mg base 34 "_law_sum" [] sp_lsum) : FnOk P w K mg base (L2.CX P w) 35 f fd ["_law_one", "_law_other"] (upF K sp_lleft) :=
  fnok_of (tb := t__law_left) F sc__law_left (by rintro _ _ _ _ ⟨_, _, rfl, _⟩; rfl) (fun cdv A outer s H E hr =>
  (ib_cons (is_while (passes_of rfl) (it_cmp io_ge (ie_callB ic_len B.len (ia_cons (ie_var 0) ia_nil)) (ie_callB ic_len B.len (ia_cons (ie_var 1) ia_nil))) (ib_cons (is_set 2 sc__law_left.nd (ie_bin io_sub (ie_callB ic_len B.len (ia_cons (ie_var 0) ia_nil)) (ie_callB ic_len B.len (ia_cons (ie_var 1) ia_nil))))
  (ib_cons (is_set 3 sc__law_left.nd (ie_call F__law_product (hr.mono (by decide)) (ia_cons (ie_bin io_add (ie_bin io_mul (ie_tup (ia_cons ie_int ia_nil)) (ie_var 2)) (ie_tup (ia_cons (ie_ix (ie_var 0) (ie_un io_neg ie_int)) ia_nil))) (ia_cons (ie_var 1) ia_nil))))
  (ib_one (is_set 0 sc__law_left.nd (ie_call F__law_plain (hr.mono (by decide)) (ia_cons (ie_call F__law_sum (hr.mono (by decide)) (ia_cons (ie_call F__law_product (hr.mono (by decide)) (ia_cons (ie_tup (ia_cons (ie_ix (ie_var 1) (ie_un io_neg ie_int)) ia_nil)) (ia_cons (ie_var 0) ia_nil))) (ia_cons (ie_var 3) (ia_cons (ie_un io_neg ie_int) ia_nil)))) ia_nil)))))))
  (ib_one (is_ret (ie_var 0))))) sem__law_left
abbrev s__law_common : Stmt := tp 50
theorem sc__law_common : FnScope ["_law_one", "_law_other"] ["_law_one", "_law_other"] (defScope s__law_common) := ⟨rfl, rfl, rfl, by decide +kernel, rfl, by decide +kernel, by decide +kernel⟩
theorem ok__law_common {f : Addr} {fd : FuncData} (B : BT mg) (V : Env P base) (T : Tx K mg C) (F : TxD K "_law_common" "_law_common" s__law_common f fd) (F__law_left : FnD P w K mg base 35 "_law_left" [] sp_lleft) (F__law_plain : FnD P w K mg base 34 "_law_plain" [] sp_plain) : FnOk P w K mg base (L2.CX P w) 36 f fd ["_law_one", "_law_other"] (upF K sp_lcommon) :=
  fnok_of (tb := t__law_common) F sc__law_common (by rintro _ _ _ _ ⟨_, _, rfl, _⟩; rfl) (fun cdv A outer s H E hr =>
  (ib_cons (is_while (passes_of rfl) (it_cmp (io_ne hr.units) (ie_var 1) (ie_tup ia_nil)) (ib_one (is_par 0 1 rfl sc__law_common.nd (ie_var 1) (ie_call F__law_left (hr.mono (by decide)) (ia_cons (ie_var 0) (ia_cons (ie_var 1) ia_nil))))))
  (ib_one (is_ret (ie_call F__law_plain (hr.mono (by decide)) (ia_cons (ie_var 0) ia_nil)))))) sem__law_common
abbrev s__law_divided : Stmt := tp 51
theorem sc__law_divided : FnScope ["_law_one", "_law_part", "_law_found", "_law_shift"] ["_law_one", "_law_part"] (defScope s__law_divided) := ⟨rfl, rfl, rfl, by decide +kernel, rfl, by decide +kernel, by decide +kernel⟩
theorem ok__law_divided {f : Addr} {fd : FuncData} (B : BT mg) (V : Env P base) (T : Tx K mg C) (F : TxD K "_law_divided" "_law_divided" s__law_divided f fd) (F__law_product : FnD P w K mg base 34 "_law_product" [] sp_lproduct) (F__law_sum : FnD P w K mg base 34 "_law_sum" [] sp_lsum) : FnOk P w K mg base (L2.CX P w) 35 f fd ["_law_one", "_law_part"] (upF K sp_ldivided) :=
  fnok_of (tb := t__law_divided) F sc__law_divided (by rintro _ _ _ _ ⟨_, _, rfl, _⟩; rfl) (fun cdv A outer s H E hr =>
  (ib_cons (is_set 2 sc__law_divided.nd (ie_bin io_mul (ie_lst (ia_cons ie_int ia_nil)) (ie_bin io_add (ie_bin io_sub (ie_callB ic_len B.len (ia_cons (ie_var 0) ia_nil)) (ie_callB ic_len B.len (ia_cons (ie_var 1) ia_nil))) ie_int)))
  (ib_cons (is_while (passes_of rfl) (it_cmp (io_ne hr.units) (ie_var 0) (ie_tup ia_nil)) (ib_cons (is_set 3 sc__law_divided.nd (ie_bin io_sub (ie_callB ic_len B.len (ia_cons (ie_var 0) ia_nil)) (ie_callB ic_len B.len (ia_cons (ie_var 1) ia_nil))))
  (ib_cons (is_asg (ie_bin (io_fdiv (seer_cx V sc__law_divided hr (by decide))) (ie_ix (ie_var 0) (ie_un io_neg ie_int)) (ie_ix (ie_var 1) (ie_un io_neg ie_int))) (ig_sub (ie_var 2) (ie_var 3) ist_set))
  (ib_one (is_set 0 sc__law_divided.nd (ie_call F__law_sum (hr.mono (by decide)) (ia_cons (ie_var 0) (ia_cons (ie_call F__law_product (hr.mono (by decide)) (ia_cons (ie_bin io_add (ie_bin io_mul (ie_tup (ia_cons ie_int ia_nil)) (ie_var 3)) (ie_tup (ia_cons (ie_ix (ie_var 2) (ie_var 3)) ia_nil))) (ia_cons (ie_var 1) ia_nil))) (ia_cons (ie_un io_neg ie_int) ia_nil)))))))))
  (ib_one (is_ret (ie_callTy ic_tuple B.tuple (ia_cons (ie_var 2) ia_nil))))))) sem__law_divided
abbrev s__law_form : Stmt := tp 52
theorem sc__law_form : FnScope ["_law_top", "_law_bottom", "_law_part", "_law_whole_here", "_law_entry"] ["_law_top", "_law_bottom"] (defScope s__law_form) := ⟨rfl, rfl, rfl, by decide +kernel, rfl, by decide +kernel, by decide +kernel⟩
theorem ok__law_form {f : Addr} {fd : FuncData} (B : BT mg) (V : Env P base) (T : Tx K mg C) (F : TxD K "_law_form" "_law_form" s__law_form f fd) (F__law_common : FnD P w K mg base 36 "_law_common" [] sp_lcommon) (F__law_divided : FnD P w K mg base 35 "_law_divided" [] sp_ldivided) (F__law_divisor : FnD P w K mg base 33 "_law_divisor" [] sp_divisor) : FnOk P w K mg base (L2.CX P w) 37 f fd ["_law_top", "_law_bottom"] (upF K sp_lform) :=
  fnok_of (tb := t__law_form) F sc__law_form (by rintro _ _ _ _ ⟨_, _, rfl, _⟩; rfl) (fun cdv A outer s H E hr =>
  (ib_cons (is_if (it_cmp (io_eq hr.units) (ie_var 0) (ie_tup ia_nil)) (ib_one (is_ret (ie_tup (ia_cons (ie_tup ia_nil) (ia_cons (ie_tup (ia_cons ie_int ia_nil)) ia_nil))))) ib_nil)
  (ib_cons (is_set 2 sc__law_form.nd (ie_call F__law_common (hr.mono (by decide)) (ia_cons (ie_var 0) (ia_cons (ie_var 1) ia_nil))))
  (ib_cons (is_par 0 1 rfl sc__law_form.nd (ie_call F__law_divided (hr.mono (by decide)) (ia_cons (ie_var 0) (ia_cons (ie_var 2) ia_nil))) (ie_call F__law_divided (hr.mono (by decide)) (ia_cons (ie_var 1) (ia_cons (ie_var 2) ia_nil))))
  (ib_cons (is_set 3 sc__law_form.nd ie_int)
  (ib_cons (is_for (passes_of rfl) rfl (ii_tup (ie_bin io_add (ie_var 0) (ie_var 1))) (ig_name 4 sc__law_form.nd) (ib_one (is_set 3 sc__law_form.nd (ie_call F__law_divisor (hr.mono (by decide)) (ia_cons (ie_var 3) (ia_cons (ie_var 4) ia_nil))))))
  (ib_cons (is_if (it_cmp io_lt (ie_ix (ie_var 1) (ie_un io_neg ie_int)) ie_int) (ib_one (is_set 3 sc__law_form.nd (ie_un io_neg (ie_var 3)))) ib_nil)
  (ib_one (is_ret (ie_tup (ia_cons (ie_callTy ic_tuple B.tuple (ia_cons (ie_lc [("_law_entry", 4)] rfl sc__law_form.nd (ii_tup (ie_var 0)) (fun _ => (igc_name 4 sc__law_form.nd)) (fun _ => its_nil) (fun _ => (ie_bin (io_fdiv (seer_cx V sc__law_form hr (by decide)).bk) (ie_var 4) (ie_var 3))) (ok := blkOk_by (N := ["_law_top", "_law_bottom", "_law_part", "_law_whole_here", "_law_entry"]) (sc := defScope s__law_form) (by decide +kernel))) ia_nil)) (ia_cons (ie_callTy ic_tuple B.tuple (ia_cons (ie_lc [("_law_entry", 4)] rfl sc__law_form.nd (ii_tup (ie_var 1)) (fun _ => (igc_name 4 sc__law_form.nd)) (fun _ => its_nil) (fun _ => (ie_bin (io_fdiv (seer_cx V sc__law_form hr (by decide)).bk) (ie_var 4) (ie_var 3))) (ok := blkOk_by (N := ["_law_top", "_law_bottom", "_law_part", "_law_whole_here", "_law_entry"]) (sc := defScope s__law_form) (by decide +kernel))) ia_nil)) ia_nil)))))))))))) sem__law_form
abbrev s__law_poly : Stmt := tp 44
theorem sc__law_poly : FnScope ["_law_purse_here", "_law_most", "_law_signs", "_law_found", "_law_k"] ["_law_purse_here", "_law_most", "_law_signs"] (defScope s__law_poly) := ⟨rfl, rfl, rfl, by decide +kernel, rfl, by decide +kernel, by decide +kernel⟩
theorem ok__law_poly {f : Addr} {fd : FuncData} (B : BT mg) (V : Env P base) (T : Tx K mg C) (F : TxD K "_law_poly" "_law_poly" s__law_poly f fd) (F__law_cut : FnD P w K mg base 33 "_law_cut" [] sp_cut) (F__law_draw : FnD P w K mg base 33 "_law_draw" [] sp_draw) (F__law_whole : FnD P w K mg base 34 "_law_whole" [] sp_whole) : FnOk P w K mg base (L2.CX P w) 35 f fd ["_law_purse_here", "_law_most", "_law_signs"] (upF K sp_lpoly) :=
  fnok_of (tb := t__law_poly) F sc__law_poly (by rintro _ _ _ _ ⟨_, _, _, rfl, _⟩; rfl) (fun cdv A outer s H E hr =>
  (ib_cons (is_setLc 3 [("_law_k", 4)] rfl sc__law_poly.nd (ii_range1 B.range (ia_cons (ie_call F__law_draw (hr.mono (by decide)) (ia_cons (ie_var 0) (ia_cons (ie_bin io_add (ie_var 1) ie_int) ia_nil))) ia_nil)) (fun _ => (igc_name 4 sc__law_poly.nd)) (fun _ => its_nil) (fun _ => (ie_call F__law_whole (hr.mono (by decide)) (ia_cons (ie_var 0) (ia_cons (ie_var 2) ia_nil)))) (ok := blkOk_by (N := ["_law_purse_here", "_law_most", "_law_signs", "_law_found", "_law_k"]) (sc := defScope s__law_poly) (by decide +kernel)))
  (ib_one (is_ret (ie_call F__law_cut (hr.mono (by decide)) (ia_cons (ie_var 3) ia_nil)))))) sem__law_poly
abbrev s__law_quotient : Stmt := tp 56
theorem sc__law_quotient : FnScope ["_law_purse_here", "_law_most", "_law_signs", "_law_top", "_law_bottom"] ["_law_purse_here", "_law_most", "_law_signs"] (defScope s__law_quotient) := ⟨rfl, rfl, rfl, by decide +kernel, rfl, by decide +kernel, by decide +kernel⟩
theorem ok__law_quotient {f : Addr} {fd : FuncData} (B : BT mg) (V : Env P base) (T : Tx K mg C) (F : TxD K "_law_quotient" "_law_quotient" s__law_quotient f fd) (F__law_draw : FnD P w K mg base 33 "_law_draw" [] sp_draw) (F__law_form : FnD P w K mg base 37 "_law_form" [] sp_lform) (F__law_poly : FnD P w K mg base 35 "_law_poly" [] sp_lpoly) : FnOk P w K mg base (L2.CX P w) 38 f fd ["_law_purse_here", "_law_most", "_law_signs"] (upF K sp_lquotient) :=
  fnok_of (tb := t__law_quotient) F sc__law_quotient (by rintro _ _ _ _ ⟨_, _, _, rfl, _⟩; rfl) (fun cdv A outer s H E hr =>
  (ib_cons (is_par 3 4 rfl sc__law_quotient.nd (ie_call F__law_poly (hr.mono (by decide)) (ia_cons (ie_var 0) (ia_cons (ie_var 1) (ia_cons (ie_var 2) ia_nil)))) (ie_call F__law_poly (hr.mono (by decide)) (ia_cons (ie_var 0) (ia_cons (ie_var 1) (ia_cons (ie_var 2) ia_nil)))))
  (ib_cons (is_if (it_cmp (io_eq hr.units) (ie_var 4) (ie_tup ia_nil)) (ib_one (is_set 4 sc__law_quotient.nd (ie_tup (ia_cons (ie_bin io_add ie_int (ie_call F__law_draw (hr.mono (by decide)) (ia_cons (ie_var 0) (ia_cons ie_int ia_nil)))) ia_nil)))) ib_nil)
  (ib_one (is_ret (ie_call F__law_form (hr.mono (by decide)) (ia_cons (ie_var 3) (ia_cons (ie_var 4) ia_nil)))))))) sem__law_quotient
abbrev s_divisor : Stmt := tp 5
theorem sc_divisor : FnScope ["one", "other"] ["one", "other"] (defScope s_divisor) := ⟨rfl, rfl, rfl, by decide +kernel, rfl, by decide +kernel, by decide +kernel⟩
theorem ok_divisor {f : Addr} {fd : FuncData} (B : BT mg) (V : Env P base) (T : Tx K mg C) (F : TxD K "divisor" "divisor" s_divisor f fd)  : FnOk P w K mg base (L2.CX P w) 33 f fd ["one", "other"] (upF K sp_divisor) :=
  fnok_of (tb := t_divisor) F sc_divisor (by rintro _ _ _ _ ⟨_, _, rfl, _⟩; rfl) (fun cdv A outer s H E hr =>
  (ib_cons (is_set 0 sc_divisor.nd (ie_callB ic_abs B.abs (ia_cons (ie_var 0) ia_nil)))
  (ib_cons (is_set 1 sc_divisor.nd (ie_callB ic_abs B.abs (ia_cons (ie_var 1) ia_nil)))
  (ib_cons (is_while (passes_of rfl) (it_cmp io_gt (ie_var 1) ie_int) (ib_one (is_par 0 1 rfl sc_divisor.nd (ie_var 1) (ie_bin io_mod (ie_var 0) (ie_var 1)))))
  (ib_one (is_ret (ie_var 0))))))) sem_divisor
abbrev s_number : Stmt := tp 6
theorem sc_number : FnScope ["top", "bottom", "part"] ["top", "bottom"] (defScope s_number) := ⟨rfl, rfl, rfl, by decide +kernel, rfl, by decide +kernel, by decide +kernel⟩
theorem ok_number {f : Addr} {fd : FuncData} (B : BT mg) (V : Env P base) (T : Tx K mg C) (F : TxD K "number" "number" s_number f fd) (F_divisor : FnD P w K mg base 33 "divisor" [] sp_divisor) : FnOk P w K mg base (L2.CX P w) 34 f fd ["top", "bottom"] (upF K (sp_number C)) :=
  fnok_of (tb := t_number C) F sc_number (by rintro _ _ _ _ ⟨_, _, rfl, _⟩; rfl) (fun cdv A outer s H E hr =>
  (ib_cons (is_if (it_cmp (io_eq hr.units) (ie_var 1) ie_int) (ib_one (is_raise rfl T.x_NoNumber)) ib_nil)
  (ib_cons (is_set 2 sc_number.nd (ie_call F_divisor (hr.mono (by decide)) (ia_cons (ie_var 0) (ia_cons (ie_var 1) ia_nil))))
  (ib_cons (is_if (it_cmp io_lt (ie_var 1) ie_int) (ib_one (is_set 2 sc_number.nd (ie_un io_neg (ie_var 2)))) ib_nil)
  (ib_one (is_ret (ie_tup (ia_cons (ie_bin (io_fdiv (seer_cx V sc_number hr (by decide))) (ie_var 0) (ie_var 2)) (ia_cons (ie_bin (io_fdiv (seer_cx V sc_number hr (by decide))) (ie_var 1) (ie_var 2)) ia_nil))))))))) sem_number
abbrev s_over : Stmt := tp 9
theorem sc_over : FnScope ["one", "other"] ["one", "other"] (defScope s_over) := ⟨rfl, rfl, rfl, by decide +kernel, rfl, by decide +kernel, by decide +kernel⟩
theorem ok_over {f : Addr} {fd : FuncData} (B : BT mg) (V : Env P base) (T : Tx K mg C) (F : TxD K "over" "over" s_over f fd) (F_number : FnD P w K mg base 34 "number" [] (sp_number C)) : FnOk P w K mg base (L2.CX P w) 35 f fd ["one", "other"] (upF K (sp_over C)) :=
  fnok_of (tb := t_over C) F sc_over (by rintro _ _ _ _ ⟨_, _, _, _, rfl, _⟩; rfl) (fun cdv A outer s H E hr =>
  (ib_one (is_ret (ie_call F_number (hr.mono (by decide)) (ia_cons (ie_bin io_mul (ie_ix (ie_var 0) ie_int) (ie_ix (ie_var 1) ie_int)) (ia_cons (ie_bin io_mul (ie_ix (ie_var 0) ie_int) (ie_ix (ie_var 1) ie_int)) ia_nil)))))) sem_over
abbrev s_plus : Stmt := tp 7
theorem sc_plus : FnScope ["one", "other"] ["one", "other"] (defScope s_plus) := ⟨rfl, rfl, rfl, by decide +kernel, rfl, by decide +kernel, by decide +kernel⟩
theorem ok_plus {f : Addr} {fd : FuncData} (B : BT mg) (V : Env P base) (T : Tx K mg C) (F : TxD K "plus" "plus" s_plus f fd) (F_number : FnD P w K mg base 34 "number" [] (sp_number C)) : FnOk P w K mg base (L2.CX P w) 35 f fd ["one", "other"] (upF K (sp_plus C)) :=
  fnok_of (tb := t_plus C) F sc_plus (by rintro _ _ _ _ ⟨_, _, _, _, rfl, _⟩; rfl) (fun cdv A outer s H E hr =>
  (ib_cons (is_if (it_w (iw_and (it_cmp (io_eq hr.units) (ie_ix (ie_var 0) ie_int) ie_int) (iw_and1 (it_cmp (io_eq hr.units) (ie_ix (ie_var 1) ie_int) ie_int)))) (ib_one (is_ret (ie_tup (ia_cons (ie_bin io_add (ie_ix (ie_var 0) ie_int) (ie_ix (ie_var 1) ie_int)) (ia_cons ie_int ia_nil))))) ib_nil)
  (ib_one (is_ret (ie_call F_number (hr.mono (by decide)) (ia_cons (ie_bin io_add (ie_bin io_mul (ie_ix (ie_var 0) ie_int) (ie_ix (ie_var 1) ie_int)) (ie_bin io_mul (ie_ix (ie_var 1) ie_int) (ie_ix (ie_var 0) ie_int))) (ia_cons (ie_bin io_mul (ie_ix (ie_var 0) ie_int) (ie_ix (ie_var 1) ie_int)) ia_nil))))))) sem_plus
abbrev s_times : Stmt := tp 8
theorem sc_times : FnScope ["one", "other"] ["one", "other"] (defScope s_times) := ⟨rfl, rfl, rfl, by decide +kernel, rfl, by decide +kernel, by decide +kernel⟩
theorem ok_times {f : Addr} {fd : FuncData} (B : BT mg) (V : Env P base) (T : Tx K mg C) (F : TxD K "times" "times" s_times f fd) (F_number : FnD P w K mg base 34 "number" [] (sp_number C)) : FnOk P w K mg base (L2.CX P w) 35 f fd ["one", "other"] (upF K (sp_times C)) :=
  fnok_of (tb := t_times C) F sc_times (by rintro _ _ _ _ ⟨_, _, _, _, rfl, _⟩; rfl) (fun cdv A outer s H E hr =>
  (ib_cons (is_if (it_w (iw_and (it_cmp (io_eq hr.units) (ie_ix (ie_var 0) ie_int) ie_int) (iw_and1 (it_cmp (io_eq hr.units) (ie_ix (ie_var 1) ie_int) ie_int)))) (ib_one (is_ret (ie_tup (ia_cons (ie_bin io_mul (ie_ix (ie_var 0) ie_int) (ie_ix (ie_var 1) ie_int)) (ia_cons ie_int ia_nil))))) ib_nil)
  (ib_one (is_ret (ie_call F_number (hr.mono (by decide)) (ia_cons (ie_bin io_mul (ie_ix (ie_var 0) ie_int) (ie_ix (ie_var 1) ie_int)) (ia_cons (ie_bin io_mul (ie_ix (ie_var 0) ie_int) (ie_ix (ie_var 1) ie_int)) ia_nil))))))) sem_times
abbrev s_worth : Stmt := tp 19
theorem sc_worth : FnScope ["one", "at", "found", "figure"] ["one", "at"] (defScope s_worth) := ⟨rfl, rfl, rfl, by decide +kernel, rfl, by decide +kernel, by decide +kernel⟩
theorem ok_worth {f : Addr} {fd : FuncData} (B : BT mg) (V : Env P base) (T : Tx K mg C) (F : TxD K "worth" "worth" s_worth f fd) (F_plus : FnD P w K mg base 35 "plus" [] (sp_plus C)) (F_times : FnD P w K mg base 35 "times" [] (sp_times C)) : FnOk P w K mg base (L2.CX P w) 36 f fd ["one", "at"] (upF K (sp_worth C)) :=
  fnok_of (tb := t_worth C) F sc_worth (by rintro _ _ _ _ ⟨_, _, rfl, _⟩; rfl) (fun cdv A outer s H E hr =>
  (ib_cons (is_set 2 sc_worth.nd (ie_tup (ia_cons ie_int (ia_cons ie_int ia_nil))))
  (ib_cons (is_for (passes_of rfl) rfl (ii_revTup B.reversed (ie_var 0)) (ig_name 3 sc_worth.nd) (ib_one (is_set 2 sc_worth.nd (ie_call F_plus (hr.mono (by decide)) (ia_cons (ie_call F_times (hr.mono (by decide)) (ia_cons (ie_var 2) (ia_cons (ie_var 1) ia_nil))) (ia_cons (ie_tup (ia_cons (ie_var 3) (ia_cons ie_int ia_nil))) ia_nil))))))
  (ib_one (is_ret (ie_var 2)))))) sem_worth
abbrev s_q_worth : Stmt := tp 37
theorem sc_q_worth : FnScope ["one", "at", "bottom"] ["one", "at"] (defScope s_q_worth) := ⟨rfl, rfl, rfl, by decide +kernel, rfl, by decide +kernel, by decide +kernel⟩
theorem ok_q_worth {f : Addr} {fd : FuncData} (B : BT mg) (V : Env P base) (T : Tx K mg C) (F : TxD K "q_worth" "q_worth" s_q_worth f fd) (F_over : FnD P w K mg base 35 "over" [] (sp_over C)) (F_worth : FnD P w K mg base 36 "worth" [] (sp_worth C)) : FnOk P w K mg base (L2.CX P w) 37 f fd ["one", "at"] (upF K (sp_qworth C)) :=
  fnok_of (tb := t_q_worth C) F sc_q_worth (by rintro _ _ _ _ ⟨_, _, _, rfl, _⟩; rfl) (fun cdv A outer s H E hr =>
  (ib_cons (is_set 2 sc_q_worth.nd (ie_call F_worth (hr.mono (by decide)) (ia_cons (ie_ix (ie_var 0) ie_int) (ia_cons (ie_var 1) ia_nil))))
  (ib_cons (is_if (it_cmp (io_eq hr.units) (ie_ix (ie_var 2) ie_int) ie_int) (ib_one (is_raise rfl T.x_NoPlace)) ib_nil)
  (ib_one (is_ret (ie_call F_over (hr.mono (by decide)) (ia_cons (ie_call F_worth (hr.mono (by decide)) (ia_cons (ie_ix (ie_var 0) ie_int) (ia_cons (ie_var 1) ia_nil))) (ia_cons (ie_var 2) ia_nil)))))))) sem_q_worth
abbrev s__law_worths : Stmt := tp 58
theorem sc__law_worths : FnScope ["_law_all_three", "_law_at", "_law_one"] ["_law_all_three", "_law_at"] (defScope s__law_worths) := ⟨rfl, rfl, rfl, by decide +kernel, rfl, by decide +kernel, by decide +kernel⟩
theorem ok__law_worths {f : Addr} {fd : FuncData} (B : BT mg) (V : Env P base) (T : Tx K mg C) (F : TxD K "_law_worths" "_law_worths" s__law_worths f fd) (F_q_worth : FnD P w K mg base 37 "q_worth" [] (sp_qworth C)) : FnOk P w K mg base (L2.CX P w) 38 f fd ["_law_all_three", "_law_at"] (upF K (sp_lworths C)) :=
  fnok_of (tb := t__law_worths C) F sc__law_worths (by rintro _ _ _ _ ⟨_, _, _, _, _, _, _, rfl, _⟩; rfl) (fun cdv A outer s H E hr =>
  (ib_one (is_tryN T.g_NoPlace (fun A hA => by rw [of_decide_eq_true hA]; exact T.n_NoPlace) (fun pn xe hp => (ib_one (is_ret (ie_lcX [("_law_one", 2)] rfl sc__law_worths.nd (ii_tup (ie_var 0)) (fun _ => (igc_name 2 sc__law_worths.nd)) (fun _ _ _ => (ie_call F_q_worth (hr.mono (by decide)) (ia_cons (ie_var 2) (ia_cons (ie_var 1) ia_nil)))) (ok := blkOk_by (N := ["_law_all_three", "_law_at", "_law_one"]) (sc := defScope s__law_worths) (by decide +kernel))))))))) sem__law_worths
abbrev s_q_less : Stmt := tp 32
theorem sc_q_less : FnScope ["one", "figure"] ["one"] (defScope s_q_less) := ⟨rfl, rfl, rfl, by decide +kernel, rfl, by decide +kernel, by decide +kernel⟩
theorem ok_q_less {f : Addr} {fd : FuncData} (B : BT mg) (V : Env P base) (T : Tx K mg C) (F : TxD K "q_less" "q_less" s_q_less f fd)  : FnOk P w K mg base (L2.CX P w) 33 f fd ["one"] (upF K sp_qless) :=
  fnok_of (tb := t_q_less) F sc_q_less (by rintro _ _ _ _ ⟨_, _, rfl, _⟩; rfl) (fun cdv A outer s H E hr =>
  (ib_one (is_ret (ie_tup (ia_cons (ie_callTy ic_tuple B.tuple (ia_cons (ie_lc [("figure", 1)] rfl sc_q_less.nd (ii_tup (ie_ix (ie_var 0) ie_int)) (fun _ => (igc_name 1 sc_q_less.nd)) (fun _ => its_nil) (fun _ => (ie_un io_neg (ie_var 1))) (ok := blkOk_by (N := ["one", "figure"]) (sc := defScope s_q_less) (by decide +kernel))) ia_nil)) (ia_cons (ie_ix (ie_var 0) ie_int) ia_nil)))))) sem_q_less
abbrev s_figure_at : Stmt := tp 12
theorem sc_figure_at : FnScope ["one", "power"] ["one", "power"] (defScope s_figure_at) := ⟨rfl, rfl, rfl, by decide +kernel, rfl, by decide +kernel, by decide +kernel⟩
theorem ok_figure_at {f : Addr} {fd : FuncData} (B : BT mg) (V : Env P base) (T : Tx K mg C) (F : TxD K "figure_at" "figure_at" s_figure_at f fd)  : FnOk P w K mg base (L2.CX P w) 33 f fd ["one", "power"] (upF K sp_figAt) :=
  fnok_of (tb := t_figure_at) F sc_figure_at (by rintro _ _ _ _ ⟨_, _, rfl, _⟩; rfl) (fun cdv A outer s H E hr =>
  (ib_one (is_ret (ie_if (it_cmp io_lt (ie_var 1) (ie_callB ic_len B.len (ia_cons (ie_var 0) ia_nil))) (ie_ix (ie_var 0) (ie_var 1)) ie_int)))) sem_figure_at
abbrev s_poly : Stmt := tp 11
theorem sc_poly : FnScope ["figures", "many"] ["figures"] (defScope s_poly) := ⟨rfl, rfl, rfl, by decide +kernel, rfl, by decide +kernel, by decide +kernel⟩
theorem ok_poly {f : Addr} {fd : FuncData} (B : BT mg) (V : Env P base) (T : Tx K mg C) (F : TxD K "poly" "poly" s_poly f fd)  : FnOk P w K mg base (L2.CX P w) 33 f fd ["figures"] (upF K sp_cut) :=
  fnok_of (tb := t_poly) F sc_poly (by rintro _ _ _ _ ⟨_, _, rfl, _⟩; rfl) (fun cdv A outer s H E hr =>
  (ib_cons (is_set 1 sc_poly.nd (ie_callB ic_len B.len (ia_cons (ie_var 0) ia_nil)))
  (ib_cons (is_while (passes_of rfl) (it_w (iw_and (it_cmp io_gt (ie_var 1) ie_int) (iw_and1 (it_cmp (io_eq hr.units) (ie_ix (ie_var 0) (ie_bin io_sub (ie_var 1) ie_int)) ie_int)))) (ib_one (is_set 1 sc_poly.nd (ie_bin io_sub (ie_var 1) ie_int))))
  (ib_one (is_ret (ie_callTy ic_tuple B.tuple (ia_cons (ie_sl (ie_var 0) ip_none (ip_some (ie_var 1))) ia_nil))))))) sem_poly
abbrev s_poly_plus : Stmt := tp 13
theorem sc_poly_plus : FnScope ["one", "other", "many", "k"] ["one", "other"] (defScope s_poly_plus) := ⟨rfl, rfl, rfl, by decide +kernel, rfl, by decide +kernel, by decide +kernel⟩
theorem ok_poly_plus {f : Addr} {fd : FuncData} (B : BT mg) (V : Env P base) (T : Tx K mg C) (F : TxD K "poly_plus" "poly_plus" s_poly_plus f fd) (F_figure_at : FnD P w K mg base 33 "figure_at" [] sp_figAt) (F_poly : FnD P w K mg base 33 "poly" [] sp_cut) : FnOk P w K mg base (L2.CX P w) 34 f fd ["one", "other"] (upF K sp_pplus) :=
  fnok_of (tb := t_poly_plus) F sc_poly_plus (by rintro _ _ _ _ ⟨_, _, rfl, _⟩; rfl) (fun cdv A outer s H E hr =>
  (ib_cons (is_set 2 sc_poly_plus.nd (ie_callB (ic_max rfl) B.max (ia_cons (ie_callB ic_len B.len (ia_cons (ie_var 0) ia_nil)) (ia_cons (ie_callB ic_len B.len (ia_cons (ie_var 1) ia_nil)) ia_nil))))
  (ib_one (is_ret (ie_call F_poly (hr.mono (by decide)) (ia_cons (ie_lc [("k", 3)] rfl sc_poly_plus.nd (ii_range1 B.range (ia_cons (ie_var 2) ia_nil)) (fun _ => (igc_name 3 sc_poly_plus.nd)) (fun _ => its_nil) (fun _ => (ie_bin io_add (ie_call F_figure_at (hr.mono (by decide)) (ia_cons (ie_var 0) (ia_cons (ie_var 3) ia_nil))) (ie_call F_figure_at (hr.mono (by decide)) (ia_cons (ie_var 1) (ia_cons (ie_var 3) ia_nil))))) (ok := blkOk_by (N := ["one", "other", "many", "k"]) (sc := defScope s_poly_plus) (by decide +kernel))) ia_nil)))))) sem_poly_plus
abbrev s_poly_times : Stmt := tp 15
theorem sc_poly_times : FnScope ["one", "other", "found", "power", "figure", "second", "factor"] ["one", "other"] (defScope s_poly_times) := ⟨rfl, rfl, rfl, by decide +kernel, rfl, by decide +kernel, by decide +kernel⟩
theorem ok_poly_times {f : Addr} {fd : FuncData} (B : BT mg) (V : Env P base) (T : Tx K mg C) (F : TxD K "poly_times" "poly_times" s_poly_times f fd)  : FnOk P w K mg base (L2.CX P w) 33 f fd ["one", "other"] (upF K sp_ptimes) :=
  fnok_of (tb := t_poly_times) F sc_poly_times (by rintro _ _ _ _ ⟨_, _, rfl, _⟩; rfl) (fun cdv A outer s H E hr =>
  (ib_cons (is_if (it_w (iw_or (it_cmp (io_eq hr.units) (ie_var 0) (ie_tup ia_nil)) (iw_or1 (it_cmp (io_eq hr.units) (ie_var 1) (ie_tup ia_nil))))) (ib_one (is_ret (ie_tup ia_nil))) ib_nil)
  (ib_cons (is_set 2 sc_poly_times.nd (ie_bin io_mul (ie_lst (ia_cons ie_int ia_nil)) (ie_bin io_sub (ie_bin io_add (ie_callB ic_len B.len (ia_cons (ie_var 0) ia_nil)) (ie_callB ic_len B.len (ia_cons (ie_var 1) ia_nil))) ie_int)))
  (ib_cons (is_for (passes_of rfl) rfl (ii_enumTup B.enumerate (ie_var 0)) (ig_tup rfl (igs_cons (ig_name 3 sc_poly_times.nd) (igs_cons (ig_name 4 sc_poly_times.nd) igs_nil))) (ib_one (is_for (passes_of rfl) rfl (ii_enumTup B.enumerate (ie_var 1)) (ig_tup rfl (igs_cons (ig_name 5 sc_poly_times.nd) (igs_cons (ig_name 6 sc_poly_times.nd) igs_nil))) (ib_one (is_augS (ie_var 2) (ie_bin io_add (ie_var 3) (ie_var 5)) (ie_bin io_mul (ie_var 4) (ie_var 6)) io_iadd)))))
  (ib_one (is_ret (ie_callTy ic_tuple B.tuple (ia_cons (ie_var 2) ia_nil)))))))) sem_poly_times
abbrev s_content : Stmt := tp 20
theorem sc_content : FnScope ["one", "found", "figure"] ["one"] (defScope s_content) := ⟨rfl, rfl, rfl, by decide +kernel, rfl, by decide +kernel, by decide +kernel⟩
theorem ok_content {f : Addr} {fd : FuncData} (B : BT mg) (V : Env P base) (T : Tx K mg C) (F : TxD K "content" "content" s_content f fd) (F_divisor : FnD P w K mg base 33 "divisor" [] sp_divisor) : FnOk P w K mg base (L2.CX P w) 34 f fd ["one"] (upF K sp_content) :=
  fnok_of (tb := t_content) F sc_content (by rintro _ _ _ _ ⟨_, rfl, _⟩; rfl) (fun cdv A outer s H E hr =>
  (ib_cons (is_set 1 sc_content.nd ie_int)
  (ib_cons (is_for (passes_of rfl) rfl (ii_tup (ie_var 0)) (ig_name 2 sc_content.nd) (ib_one (is_set 1 sc_content.nd (ie_call F_divisor (hr.mono (by decide)) (ia_cons (ie_var 1) (ia_cons (ie_var 2) ia_nil))))))
  (ib_one (is_ret (ie_var 1)))))) sem_content
abbrev s_parted : Stmt := tp 21
theorem sc_parted : FnScope ["one", "whole", "figure"] ["one", "whole"] (defScope s_parted) := ⟨rfl, rfl, rfl, by decide +kernel, rfl, by decide +kernel, by decide +kernel⟩
theorem ok_parted {f : Addr} {fd : FuncData} (B : BT mg) (V : Env P base) (T : Tx K mg C) (F : TxD K "parted" "parted" s_parted f fd)  : FnOk P w K mg base (L2.CX P w) 33 f fd ["one", "whole"] (upF K sp_parted) :=
  fnok_of (tb := t_parted) F sc_parted (by rintro _ _ _ _ ⟨_, _, rfl, _⟩; rfl) (fun cdv A outer s H E hr =>
  (ib_one (is_ret (ie_callTy ic_tuple B.tuple (ia_cons (ie_lc [("figure", 2)] rfl sc_parted.nd (ii_tup (ie_var 0)) (fun _ => (igc_name 2 sc_parted.nd)) (fun _ => its_nil) (fun _ => (ie_bin (io_fdiv (seer_cx V sc_parted hr (by decide)).bk) (ie_var 2) (ie_var 1))) (ok := blkOk_by (N := ["one", "whole", "figure"]) (sc := defScope s_parted) (by decide +kernel))) ia_nil))))) sem_parted
abbrev s_plain : Stmt := tp 22
theorem sc_plain : FnScope ["one", "part"] ["one"] (defScope s_plain) := ⟨rfl, rfl, rfl, by decide +kernel, rfl, by decide +kernel, by decide +kernel⟩
theorem ok_plain {f : Addr} {fd : FuncData} (B : BT mg) (V : Env P base) (T : Tx K mg C) (F : TxD K "plain" "plain" s_plain f fd) (F_content : FnD P w K mg base 34 "content" [] sp_content) (F_parted : FnD P w K mg base 33 "parted" [] sp_parted) : FnOk P w K mg base (L2.CX P w) 35 f fd ["one"] (upF K sp_plain) :=
  fnok_of (tb := t_plain) F sc_plain (by rintro _ _ _ _ ⟨_, rfl, _⟩; rfl) (fun cdv A outer s H E hr =>
  (ib_cons (is_if (it_cmp (io_eq hr.units) (ie_var 0) (ie_tup ia_nil)) (ib_one (is_ret (ie_tup ia_nil))) ib_nil)
  (ib_cons (is_set 1 sc_plain.nd (ie_call F_content (hr.mono (by decide)) (ia_cons (ie_var 0) ia_nil)))
  (ib_one (is_ret (ie_call F_parted (hr.mono (by decide)) (ia_cons (ie_var 0) (ia_cons (ie_if (it_cmp io_gt (ie_ix (ie_var 0) (ie_un io_neg ie_int)) ie_int) (ie_var 1) (ie_un io_neg (ie_var 1))) ia_nil)))))))) sem_plain
abbrev s_poly_minus : Stmt := tp 14
theorem sc_poly_minus : FnScope ["one", "other", "many", "k"] ["one", "other"] (defScope s_poly_minus) := ⟨rfl, rfl, rfl, by decide +kernel, rfl, by decide +kernel, by decide +kernel⟩
theorem ok_poly_minus {f : Addr} {fd : FuncData} (B : BT mg) (V : Env P base) (T : Tx K mg C) (F : TxD K "poly_minus" "poly_minus" s_poly_minus f fd) (F_figure_at : FnD P w K mg base 33 "figure_at" [] sp_figAt) (F_poly : FnD P w K mg base 33 "poly" [] sp_cut) : FnOk P w K mg base (L2.CX P w) 34 f fd ["one", "other"] (upF K sp_pminus) :=
  fnok_of (tb := t_poly_minus) F sc_poly_minus (by rintro _ _ _ _ ⟨_, _, rfl, _⟩; rfl) (fun cdv A outer s H E hr =>
  (ib_cons (is_set 2 sc_poly_minus.nd (ie_callB (ic_max rfl) B.max (ia_cons (ie_callB ic_len B.len (ia_cons (ie_var 0) ia_nil)) (ia_cons (ie_callB ic_len B.len (ia_cons (ie_var 1) ia_nil)) ia_nil))))
  (ib_one (is_ret (ie_call F_poly (hr.mono (by decide)) (ia_cons (ie_lc [("k", 3)] rfl sc_poly_minus.nd (ii_range1 B.range (ia_cons (ie_var 2) ia_nil)) (fun _ => (igc_name 3 sc_poly_minus.nd)) (fun _ => its_nil) (fun _ => (ie_bin io_sub (ie_call F_figure_at (hr.mono (by decide)) (ia_cons (ie_var 0) (ia_cons (ie_var 3) ia_nil))) (ie_call F_figure_at (hr.mono (by decide)) (ia_cons (ie_var 1) (ia_cons (ie_var 3) ia_nil))))) (ok := blkOk_by (N := ["one", "other", "many", "k"]) (sc := defScope s_poly_minus) (by decide +kernel))) ia_nil)))))) sem_poly_minus
abbrev s_raised : Stmt := tp 17
theorem sc_raised : FnScope ["one", "power"] ["one", "power"] (defScope s_raised) := ⟨rfl, rfl, rfl, by decide +kernel, rfl, by decide +kernel, by decide +kernel⟩
theorem ok_raised {f : Addr} {fd : FuncData} (B : BT mg) (V : Env P base) (T : Tx K mg C) (F : TxD K "raised" "raised" s_raised f fd)  : FnOk P w K mg base (L2.CX P w) 33 f fd ["one", "power"] (upF K sp_raised) :=
  fnok_of (tb := t_raised) F sc_raised (by rintro _ _ _ _ ⟨_, _, rfl, _⟩; rfl) (fun cdv A outer s H E hr =>
  (ib_one (is_ret (ie_if (it_cmp (io_ne hr.units) (ie_var 0) (ie_tup ia_nil)) (ie_bin io_add (ie_bin io_mul (ie_tup (ia_cons ie_int ia_nil)) (ie_var 1)) (ie_var 0)) (ie_tup ia_nil))))) sem_raised
abbrev s_scaled : Stmt := tp 16
theorem sc_scaled : FnScope ["one", "often", "figure"] ["one", "often"] (defScope s_scaled) := ⟨rfl, rfl, rfl, by decide +kernel, rfl, by decide +kernel, by decide +kernel⟩
theorem ok_scaled {f : Addr} {fd : FuncData} (B : BT mg) (V : Env P base) (T : Tx K mg C) (F : TxD K "scaled" "scaled" s_scaled f fd) (F_poly : FnD P w K mg base 33 "poly" [] sp_cut) : FnOk P w K mg base (L2.CX P w) 34 f fd ["one", "often"] (upF K sp_scaled) :=
  fnok_of (tb := t_scaled) F sc_scaled (by rintro _ _ _ _ ⟨_, _, rfl, _⟩; rfl) (fun cdv A outer s H E hr =>
  (ib_one (is_ret (ie_call F_poly (hr.mono (by decide)) (ia_cons (ie_lc [("figure", 2)] rfl sc_scaled.nd (ii_tup (ie_var 0)) (fun _ => (igc_name 2 sc_scaled.nd)) (fun _ => its_nil) (fun _ => (ie_bin io_mul (ie_var 2) (ie_var 1))) (ok := blkOk_by (N := ["one", "often", "figure"]) (sc := defScope s_scaled) (by decide +kernel))) ia_nil))))) sem_scaled
abbrev s_without_head : Stmt := tp 23
theorem sc_without_head : FnScope ["one", "other", "part", "often", "head", "power"] ["one", "other"] (defScope s_without_head) := ⟨rfl, rfl, rfl, by decide +kernel, rfl, by decide +kernel, by decide +kernel⟩
theorem ok_without_head {f : Addr} {fd : FuncData} (B : BT mg) (V : Env P base) (T : Tx K mg C) (F : TxD K "without_head" "without_head" s_without_head f fd) (F_divisor : FnD P w K mg base 33 "divisor" [] sp_divisor) (F_poly_minus : FnD P w K mg base 34 "poly_minus" [] sp_pminus) (F_raised : FnD P w K mg base 33 "raised" [] sp_raised) (F_scaled : FnD P w K mg base 34 "scaled" [] sp_scaled) : FnOk P w K mg base (L2.CX P w) 35 f fd ["one", "other"] (upF K sp_head) :=
  fnok_of (tb := t_without_head) F sc_without_head (by rintro _ _ _ _ ⟨_, _, rfl, _⟩; rfl) (fun cdv A outer s H E hr =>
  (ib_cons (is_set 2 sc_without_head.nd (ie_call F_divisor (hr.mono (by decide)) (ia_cons (ie_ix (ie_var 0) (ie_un io_neg ie_int)) (ia_cons (ie_ix (ie_var 1) (ie_un io_neg ie_int)) ia_nil))))
  (ib_cons (is_set 3 sc_without_head.nd (ie_bin (io_fdiv (seer_cx V sc_without_head hr (by decide))) (ie_ix (ie_var 1) (ie_un io_neg ie_int)) (ie_var 2)))
  (ib_cons (is_set 4 sc_without_head.nd (ie_bin (io_fdiv (seer_cx V sc_without_head hr (by decide))) (ie_ix (ie_var 0) (ie_un io_neg ie_int)) (ie_var 2)))
  (ib_cons (is_if (it_cmp io_lt (ie_var 3) ie_int) (ib_one (is_par 3 4 rfl sc_without_head.nd (ie_un io_neg (ie_var 3)) (ie_un io_neg (ie_var 4)))) ib_nil)
  (ib_cons (is_set 5 sc_without_head.nd (ie_bin io_sub (ie_callB ic_len B.len (ia_cons (ie_var 0) ia_nil)) (ie_callB ic_len B.len (ia_cons (ie_var 1) ia_nil))))
  (ib_one (is_ret (ie_tup (ia_cons (ie_call F_poly_minus (hr.mono (by decide)) (ia_cons (ie_call F_scaled (hr.mono (by decide)) (ia_cons (ie_var 0) (ia_cons (ie_var 3) ia_nil))) (ia_cons (ie_call F_raised (hr.mono (by decide)) (ia_cons (ie_call F_scaled (hr.mono (by decide)) (ia_cons (ie_var 1) (ia_cons (ie_var 4) ia_nil))) (ia_cons (ie_var 5) ia_nil))) ia_nil))) (ia_cons (ie_var 3) (ia_cons (ie_call F_raised (hr.mono (by decide)) (ia_cons (ie_tup (ia_cons (ie_var 4) ia_nil)) (ia_cons (ie_var 5) ia_nil))) ia_nil)))))))))))) sem_without_head
abbrev s_rest_by : Stmt := tp 25
theorem sc_rest_by : FnScope ["one", "other"] ["one", "other"] (defScope s_rest_by) := ⟨rfl, rfl, rfl, by decide +kernel, rfl, by decide +kernel, by decide +kernel⟩
theorem ok_rest_by {f : Addr} {fd : FuncData} (B : BT mg) (V : Env P base) (T : Tx K mg C) (F : TxD K "rest_by" "rest_by" s_rest_by f fd) (F_without_head : FnD P w K mg base 35 "without_head" [] sp_head) : FnOk P w K mg base (L2.CX P w) 36 f fd ["one", "other"] (upF K sp_restBy) :=
  fnok_of (tb := t_rest_by) F sc_rest_by (by rintro _ _ _ _ ⟨_, _, rfl, _⟩; rfl) (fun cdv A outer s H E hr =>
  (ib_cons (is_while (passes_of rfl) (it_cmp io_ge (ie_callB ic_len B.len (ia_cons (ie_var 0) ia_nil)) (ie_callB ic_len B.len (ia_cons (ie_var 1) ia_nil))) (ib_one (is_set 0 sc_rest_by.nd (ie_ix (ie_call F_without_head (hr.mono (by decide)) (ia_cons (ie_var 0) (ia_cons (ie_var 1) ia_nil))) ie_int))))
  (ib_one (is_ret (ie_var 0))))) sem_rest_by'
abbrev s_common : Stmt := tp 26
theorem sc_common : FnScope ["one", "other"] ["one", "other"] (defScope s_common) := ⟨rfl, rfl, rfl, by decide +kernel, rfl, by decide +kernel, by decide +kernel⟩
theorem ok_common {f : Addr} {fd : FuncData} (B : BT mg) (V : Env P base) (T : Tx K mg C) (F : TxD K "common" "common" s_common f fd) (F_plain : FnD P w K mg base 35 "plain" [] sp_plain) (F_rest_by : FnD P w K mg base 36 "rest_by" [] sp_restBy) : FnOk P w K mg base (L2.CX P w) 37 f fd ["one", "other"] (upF K sp_common) :=
  fnok_of (tb := t_common) F sc_common (by rintro _ _ _ _ ⟨_, _, rfl, _⟩; rfl) (fun cdv A outer s H E hr =>
  (ib_cons (is_par 0 1 rfl sc_common.nd (ie_call F_plain (hr.mono (by decide)) (ia_cons (ie_var 0) ia_nil)) (ie_call F_plain (hr.mono (by decide)) (ia_cons (ie_var 1) ia_nil)))
  (ib_cons (is_while (passes_of rfl) (it_cmp (io_ne hr.units) (ie_var 1) (ie_tup ia_nil)) (ib_one (is_par 0 1 rfl sc_common.nd (ie_var 1) (ie_call F_plain (hr.mono (by decide)) (ia_cons (ie_call F_rest_by (hr.mono (by decide)) (ia_cons (ie_var 0) (ia_cons (ie_var 1) ia_nil))) ia_nil)))))
  (ib_one (is_ret (ie_var 0)))))) sem_common
abbrev s_long_division : Stmt := tp 24
theorem sc_long_division : FnScope ["one", "other", "often", "quotient", "rest", "more", "head", "part"] ["one", "other"] (defScope s_long_division) := ⟨rfl, rfl, rfl, by decide +kernel, rfl, by decide +kernel, by decide +kernel⟩
theorem ok_long_division {f : Addr} {fd : FuncData} (B : BT mg) (V : Env P base) (T : Tx K mg C) (F : TxD K "long_division" "long_division" s_long_division f fd) (F_content : FnD P w K mg base 34 "content" [] sp_content) (F_divisor : FnD P w K mg base 33 "divisor" [] sp_divisor) (F_parted : FnD P w K mg base 33 "parted" [] sp_parted) (F_poly_plus : FnD P w K mg base 34 "poly_plus" [] sp_pplus) (F_scaled : FnD P w K mg base 34 "scaled" [] sp_scaled) (F_without_head : FnD P w K mg base 35 "without_head" [] sp_head) : FnOk P w K mg base (L2.CX P w) 36 f fd ["one", "other"] (upF K (sp_longdiv C)) :=
  fnok_of (tb := t_long_division C) F sc_long_division (by rintro _ _ _ _ ⟨_, _, rfl, _⟩; rfl) (fun cdv A outer s H E hr =>
  (ib_cons (is_if (it_cmp (io_eq hr.units) (ie_var 1) (ie_tup ia_nil)) (ib_one (is_raise rfl T.x_NoNumber)) ib_nil)
  (ib_cons (is_par3 2 3 4 rfl sc_long_division.nd (ia_cons ie_int (ia_cons (ie_tup ia_nil) (ia_cons (ie_var 0) ia_nil))))
  (ib_cons (is_while (passes_of rfl) (it_cmp io_ge (ie_callB ic_len B.len (ia_cons (ie_var 4) ia_nil)) (ie_callB ic_len B.len (ia_cons (ie_var 1) ia_nil))) (ib_cons (is_asg (ie_call F_without_head (hr.mono (by decide)) (ia_cons (ie_var 4) (ia_cons (ie_var 1) ia_nil))) (ig_tup rfl (igs_cons (ig_name 4 sc_long_division.nd) (igs_cons (ig_name 5 sc_long_division.nd) (igs_cons (ig_name 6 sc_long_division.nd) igs_nil)))))
  (ib_cons (is_set 2 sc_long_division.nd (ie_bin io_mul (ie_var 2) (ie_var 5)))
  (ib_one (is_set 3 sc_long_division.nd (ie_call F_poly_plus (hr.mono (by decide)) (ia_cons (ie_call F_scaled (hr.mono (by decide)) (ia_cons (ie_var 3) (ia_cons (ie_var 5) ia_nil))) (ia_cons (ie_var 6) ia_nil))))))))
  (ib_cons (is_set 7 sc_long_division.nd (ie_call F_divisor (hr.mono (by decide)) (ia_cons (ie_var 2) (ia_cons (ie_call F_divisor (hr.mono (by decide)) (ia_cons (ie_call F_content (hr.mono (by decide)) (ia_cons (ie_var 3) ia_nil)) (ia_cons (ie_call F_content (hr.mono (by decide)) (ia_cons (ie_var 4) ia_nil)) ia_nil))) ia_nil))))
  (ib_one (is_ret (ie_tup (ia_cons (ie_bin (io_fdiv (seer_cx V sc_long_division hr (by decide))) (ie_var 2) (ie_var 7)) (ia_cons (ie_call F_parted (hr.mono (by decide)) (ia_cons (ie_var 3) (ia_cons (ie_var 7) ia_nil))) (ia_cons (ie_call F_parted (hr.mono (by decide)) (ia_cons (ie_var 4) (ia_cons (ie_var 7) ia_nil))) ia_nil))))))))))) sem_long_division
abbrev s_without_common : Stmt := tp 29
theorem sc_without_common : FnScope ["one", "part"] ["one", "part"] (defScope s_without_common) := ⟨rfl, rfl, rfl, by decide +kernel, rfl, by decide +kernel, by decide +kernel⟩
theorem ok_without_common {f : Addr} {fd : FuncData} (B : BT mg) (V : Env P base) (T : Tx K mg C) (F : TxD K "without_common" "without_common" s_without_common f fd) (F_long_division : FnD P w K mg base 36 "long_division" [] (sp_longdiv C)) : FnOk P w K mg base (L2.CX P w) 37 f fd ["one", "part"] (upF K (sp_wcommon C)) :=
  fnok_of (tb := t_without_common C) F sc_without_common (by rintro _ _ _ _ ⟨_, _, rfl, _⟩; rfl) (fun cdv A outer s H E hr =>
  (ib_one (is_ret (ie_if (it_cmp (io_eq hr.units) (ie_var 1) (ie_tup (ia_cons ie_int ia_nil))) (ie_var 0) (ie_ix (ie_call F_long_division (hr.mono (by decide)) (ia_cons (ie_var 0) (ia_cons (ie_var 1) ia_nil))) ie_int))))) sem_without_common
abbrev s_quotient : Stmt := tp 30
theorem sc_quotient : FnScope ["top", "bottom", "part", "whole"] ["top", "bottom"] (defScope s_quotient) := ⟨rfl, rfl, rfl, by decide +kernel, rfl, by decide +kernel, by decide +kernel⟩
theorem ok_quotient {f : Addr} {fd : FuncData} (B : BT mg) (V : Env P base) (T : Tx K mg C) (F : TxD K "quotient" "quotient" s_quotient f fd) (F_common : FnD P w K mg base 37 "common" [] sp_common) (F_content : FnD P w K mg base 34 "content" [] sp_content) (F_divisor : FnD P w K mg base 33 "divisor" [] sp_divisor) (F_parted : FnD P w K mg base 33 "parted" [] sp_parted) (F_without_common : FnD P w K mg base 37 "without_common" [] (sp_wcommon C)) : FnOk P w K mg base (L2.CX P w) 38 f fd ["top", "bottom"] (upF K (sp_quotient C)) :=
  fnok_of (tb := t_quotient C) F sc_quotient (by rintro _ _ _ _ ⟨_, _, rfl, _⟩; rfl) (fun cdv A outer s H E hr =>
  (ib_cons (is_if (it_cmp (io_eq hr.units) (ie_var 1) (ie_tup ia_nil)) (ib_one (is_raise rfl T.x_NoNumber)) ib_nil)
  (ib_cons (is_if (it_cmp (io_eq hr.units) (ie_var 0) (ie_tup ia_nil)) (ib_one (is_ret (ie_kt T.kt_NOUGHT))) ib_nil)
  (ib_cons (is_if (it_w (iw_and (it_cmp io_gt (ie_callB ic_len B.len (ia_cons (ie_var 1) ia_nil)) ie_int) (iw_and1 (it_cmp io_gt (ie_callB ic_len B.len (ia_cons (ie_var 0) ia_nil)) ie_int)))) (ib_cons (is_set 2 sc_quotient.nd (ie_call F_common (hr.mono (by decide)) (ia_cons (ie_var 0) (ia_cons (ie_var 1) ia_nil))))
  (ib_one (is_par 0 1 rfl sc_quotient.nd (ie_call F_without_common (hr.mono (by decide)) (ia_cons (ie_var 0) (ia_cons (ie_var 2) ia_nil))) (ie_call F_without_common (hr.mono (by decide)) (ia_cons (ie_var 1) (ia_cons (ie_var 2) ia_nil)))))) ib_nil)
  (ib_cons (is_set 3 sc_quotient.nd (ie_call F_divisor (hr.mono (by decide)) (ia_cons (ie_call F_content (hr.mono (by decide)) (ia_cons (ie_var 0) ia_nil)) (ia_cons (ie_call F_content (hr.mono (by decide)) (ia_cons (ie_var 1) ia_nil)) ia_nil))))
  (ib_cons (is_if (it_cmp io_lt (ie_ix (ie_var 1) (ie_un io_neg ie_int)) ie_int) (ib_one (is_set 3 sc_quotient.nd (ie_un io_neg (ie_var 3)))) ib_nil)
  (ib_one (is_ret (ie_tup (ia_cons (ie_call F_parted (hr.mono (by decide)) (ia_cons (ie_var 0) (ia_cons (ie_var 3) ia_nil))) (ia_cons (ie_call F_parted (hr.mono (by decide)) (ia_cons (ie_var 1) (ia_cons (ie_var 3) ia_nil))) ia_nil))))))))))) sem_quotient
abbrev s_q_plus : Stmt := tp 31
theorem sc_q_plus : FnScope ["one", "other", "top"] ["one", "other"] (defScope s_q_plus) := ⟨rfl, rfl, rfl, by decide +kernel, rfl, by decide +kernel, by decide +kernel⟩
theorem ok_q_plus {f : Addr} {fd : FuncData} (B : BT mg) (V : Env P base) (T : Tx K mg C) (F : TxD K "q_plus" "q_plus" s_q_plus f fd) (F_poly_plus : FnD P w K mg base 34 "poly_plus" [] sp_pplus) (F_poly_times : FnD P w K mg base 33 "poly_times" [] sp_ptimes) (F_quotient : FnD P w K mg base 38 "quotient" [] (sp_quotient C)) : FnOk P w K mg base (L2.CX P w) 39 f fd ["one", "other"] (upF K (sp_qplus C)) :=
  fnok_of (tb := t_q_plus C) F sc_q_plus (by rintro _ _ _ _ ⟨_, _, _, _, rfl, _⟩; rfl) (fun cdv A outer s H E hr =>
  (ib_cons (is_if (it_cmp (io_eq hr.units) (ie_ix (ie_var 0) ie_int) (ie_ix (ie_var 1) ie_int)) (ib_one (is_ret (ie_call F_quotient (hr.mono (by decide)) (ia_cons (ie_call F_poly_plus (hr.mono (by decide)) (ia_cons (ie_ix (ie_var 0) ie_int) (ia_cons (ie_ix (ie_var 1) ie_int) ia_nil))) (ia_cons (ie_ix (ie_var 0) ie_int) ia_nil))))) ib_nil)
  (ib_cons (is_set 2 sc_q_plus.nd (ie_call F_poly_plus (hr.mono (by decide)) (ia_cons (ie_call F_poly_times (hr.mono (by decide)) (ia_cons (ie_ix (ie_var 0) ie_int) (ia_cons (ie_ix (ie_var 1) ie_int) ia_nil))) (ia_cons (ie_call F_poly_times (hr.mono (by decide)) (ia_cons (ie_ix (ie_var 1) ie_int) (ia_cons (ie_ix (ie_var 0) ie_int) ia_nil))) ia_nil))))
  (ib_one (is_ret (ie_call F_quotient (hr.mono (by decide)) (ia_cons (ie_var 2) (ia_cons (ie_call F_poly_times (hr.mono (by decide)) (ia_cons (ie_ix (ie_var 0) ie_int) (ia_cons (ie_ix (ie_var 1) ie_int) ia_nil))) ia_nil)))))))) sem_q_plus
abbrev s_q_minus : Stmt := tp 33
theorem sc_q_minus : FnScope ["one", "other"] ["one", "other"] (defScope s_q_minus) := ⟨rfl, rfl, rfl, by decide +kernel, rfl, by decide +kernel, by decide +kernel⟩
theorem ok_q_minus {f : Addr} {fd : FuncData} (B : BT mg) (V : Env P base) (T : Tx K mg C) (F : TxD K "q_minus" "q_minus" s_q_minus f fd) (F_q_less : FnD P w K mg base 33 "q_less" [] sp_qless) (F_q_plus : FnD P w K mg base 39 "q_plus" [] (sp_qplus C)) : FnOk P w K mg base (L2.CX P w) 40 f fd ["one", "other"] (upF K (sp_qminus C)) :=
  fnok_of (tb := t_q_minus C) F sc_q_minus (by rintro _ _ _ _ ⟨_, _, _, _, rfl, _⟩; rfl) (fun cdv A outer s H E hr =>
  (ib_one (is_ret (ie_call F_q_plus (hr.mono (by decide)) (ia_cons (ie_var 0) (ia_cons (ie_call F_q_less (hr.mono (by decide)) (ia_cons (ie_var 1) ia_nil)) ia_nil)))))) sem_q_minus
abbrev s_q_over : Stmt := tp 35
theorem sc_q_over : FnScope ["one", "other"] ["one", "other"] (defScope s_q_over) := ⟨rfl, rfl, rfl, by decide +kernel, rfl, by decide +kernel, by decide +kernel⟩
theorem ok_q_over {f : Addr} {fd : FuncData} (B : BT mg) (V : Env P base) (T : Tx K mg C) (F : TxD K "q_over" "q_over" s_q_over f fd) (F_poly_times : FnD P w K mg base 33 "poly_times" [] sp_ptimes) (F_quotient : FnD P w K mg base 38 "quotient" [] (sp_quotient C)) : FnOk P w K mg base (L2.CX P w) 39 f fd ["one", "other"] (upF K (sp_qover C)) :=
  fnok_of (tb := t_q_over C) F sc_q_over (by rintro _ _ _ _ ⟨_, _, _, _, rfl, _⟩; rfl) (fun cdv A outer s H E hr =>
  (ib_one (is_ret (ie_call F_quotient (hr.mono (by decide)) (ia_cons (ie_call F_poly_times (hr.mono (by decide)) (ia_cons (ie_ix (ie_var 0) ie_int) (ia_cons (ie_ix (ie_var 1) ie_int) ia_nil))) (ia_cons (ie_call F_poly_times (hr.mono (by decide)) (ia_cons (ie_ix (ie_var 0) ie_int) (ia_cons (ie_ix (ie_var 1) ie_int) ia_nil))) ia_nil)))))) sem_q_over
abbrev s_poly_slope : Stmt := tp 18
theorem sc_poly_slope : FnScope ["one", "power"] ["one"] (defScope s_poly_slope) := ⟨rfl, rfl, rfl, by decide +kernel, rfl, by decide +kernel, by decide +kernel⟩
theorem ok_poly_slope {f : Addr} {fd : FuncData} (B : BT mg) (V : Env P base) (T : Tx K mg C) (F : TxD K "poly_slope" "poly_slope" s_poly_slope f fd)  : FnOk P w K mg base (L2.CX P w) 33 f fd ["one"] (upF K sp_pslope) :=
  fnok_of (tb := t_poly_slope) F sc_poly_slope (by rintro _ _ _ _ ⟨_, rfl, _⟩; rfl) (fun cdv A outer s H E hr =>
  (ib_one (is_ret (ie_callTy ic_tuple B.tuple (ia_cons (ie_lc [("power", 1)] rfl sc_poly_slope.nd (ii_range2 B.range (ia_cons ie_int (ia_cons (ie_callB ic_len B.len (ia_cons (ie_var 0) ia_nil)) ia_nil))) (fun _ => (igc_name 1 sc_poly_slope.nd)) (fun _ => its_nil) (fun _ => (ie_bin io_mul (ie_var 1) (ie_ix (ie_var 0) (ie_var 1)))) (ok := blkOk_by (N := ["one", "power"]) (sc := defScope s_poly_slope) (by decide +kernel))) ia_nil))))) sem_poly_slope
abbrev s_q_slope : Stmt := tp 36
theorem sc_q_slope : FnScope ["one", "top", "bottom", "lifted"] ["one"] (defScope s_q_slope) := ⟨rfl, rfl, rfl, by decide +kernel, rfl, by decide +kernel, by decide +kernel⟩
theorem ok_q_slope {f : Addr} {fd : FuncData} (B : BT mg) (V : Env P base) (T : Tx K mg C) (F : TxD K "q_slope" "q_slope" s_q_slope f fd) (F_poly_minus : FnD P w K mg base 34 "poly_minus" [] sp_pminus) (F_poly_slope : FnD P w K mg base 33 "poly_slope" [] sp_pslope) (F_poly_times : FnD P w K mg base 33 "poly_times" [] sp_ptimes) (F_quotient : FnD P w K mg base 38 "quotient" [] (sp_quotient C)) : FnOk P w K mg base (L2.CX P w) 39 f fd ["one"] (upF K (sp_qslope C)) :=
  fnok_of (tb := t_q_slope C) F sc_q_slope (by rintro _ _ _ _ ⟨_, _, rfl, _⟩; rfl) (fun cdv A outer s H E hr =>
  (ib_cons (is_asg (ie_var 0) (ig_tup rfl (igs_cons (ig_name 1 sc_q_slope.nd) (igs_cons (ig_name 2 sc_q_slope.nd) igs_nil))))
  (ib_cons (is_if (it_cmp (io_eq hr.units) (ie_callB ic_len B.len (ia_cons (ie_var 2) ia_nil)) ie_int) (ib_one (is_ret (ie_call F_quotient (hr.mono (by decide)) (ia_cons (ie_call F_poly_slope (hr.mono (by decide)) (ia_cons (ie_var 1) ia_nil)) (ia_cons (ie_var 2) ia_nil))))) ib_nil)
  (ib_cons (is_set 3 sc_q_slope.nd (ie_call F_poly_minus (hr.mono (by decide)) (ia_cons (ie_call F_poly_times (hr.mono (by decide)) (ia_cons (ie_call F_poly_slope (hr.mono (by decide)) (ia_cons (ie_var 1) ia_nil)) (ia_cons (ie_var 2) ia_nil))) (ia_cons (ie_call F_poly_times (hr.mono (by decide)) (ia_cons (ie_var 1) (ia_cons (ie_call F_poly_slope (hr.mono (by decide)) (ia_cons (ie_var 2) ia_nil)) ia_nil))) ia_nil))))
  (ib_one (is_ret (ie_call F_quotient (hr.mono (by decide)) (ia_cons (ie_var 3) (ia_cons (ie_call F_poly_times (hr.mono (by decide)) (ia_cons (ie_var 2) (ia_cons (ie_var 2) ia_nil))) ia_nil))))))))) sem_q_slope
abbrev s_q_times : Stmt := tp 34
theorem sc_q_times : FnScope ["one", "other"] ["one", "other"] (defScope s_q_times) := ⟨rfl, rfl, rfl, by decide +kernel, rfl, by decide +kernel, by decide +kernel⟩
theorem ok_q_times {f : Addr} {fd : FuncData} (B : BT mg) (V : Env P base) (T : Tx K mg C) (F : TxD K "q_times" "q_times" s_q_times f fd) (F_poly_times : FnD P w K mg base 33 "poly_times" [] sp_ptimes) (F_quotient : FnD P w K mg base 38 "quotient" [] (sp_quotient C)) : FnOk P w K mg base (L2.CX P w) 39 f fd ["one", "other"] (upF K (sp_qtimes C)) :=
  fnok_of (tb := t_q_times C) F sc_q_times (by rintro _ _ _ _ ⟨_, _, _, _, rfl, _⟩; rfl) (fun cdv A outer s H E hr =>
  (ib_one (is_ret (ie_call F_quotient (hr.mono (by decide)) (ia_cons (ie_call F_poly_times (hr.mono (by decide)) (ia_cons (ie_ix (ie_var 0) ie_int) (ia_cons (ie_ix (ie_var 1) ie_int) ia_nil))) (ia_cons (ie_call F_poly_times (hr.mono (by decide)) (ia_cons (ie_ix (ie_var 0) ie_int) (ia_cons (ie_ix (ie_var 1) ie_int) ia_nil))) ia_nil)))))) sem_q_times
abbrev s_law : Stmt := tp 59
theorem sc_law : FnScope ["_law_script", "_law_k", "_law_purse_here", "_law_one", "_law_other", "_law_third", "_law_share_of_both", "_law_left_here", "_law_at", "_law_worths_here", "_law_due", "_law_again"] ["_law_script"] (defScope s_law) := ⟨rfl, rfl, rfl, by decide +kernel, rfl, by decide +kernel, by decide +kernel⟩
theorem ok_law {f : Addr} {fd : FuncData} (B : BT mg) (V : Env P base) (T : Tx K mg C) (F : TxD K "law" "law" s_law f fd) (F__law_many : FnD P w K mg base 33 "_law_many" [] sp_many) (F__law_number : FnD P w K mg base 35 "_law_number" [] sp_lnumber) (F__law_purse : FnD P w K mg base 33 "_law_purse" [] sp_purse) (F__law_quotient : FnD P w K mg base 38 "_law_quotient" [] sp_lquotient) (F__law_worths : FnD P w K mg base 38 "_law_worths" [] (sp_lworths C)) (F_plus : FnD P w K mg base 35 "plus" [] (sp_plus C)) (F_q_minus : FnD P w K mg base 40 "q_minus" [] (sp_qminus C)) (F_q_over : FnD P w K mg base 39 "q_over" [] (sp_qover C)) (F_q_plus : FnD P w K mg base 39 "q_plus" [] (sp_qplus C)) (F_q_slope : FnD P w K mg base 39 "q_slope" [] (sp_qslope C)) (F_q_times : FnD P w K mg base 39 "q_times" [] (sp_qtimes C)) (F_q_worth : FnD P w K mg base 37 "q_worth" [] (sp_qworth C)) (F_times : FnD P w K mg base 35 "times" [] (sp_times C)) : FnOk P w K mg base (L2.CX P w) 41 f fd ["_law_script"] (upF K sp_law) :=
  fnok_of (tb := t_law C) F sc_law (by rintro _ _ _ _ ⟨_, rfl, _⟩; rfl) (fun cdv A outer s H E hr =>
  (ib_cons (is_for (passes_of rfl) rfl (ii_lst (ie_call F__law_many (hr.mono (by decide)) (ia_cons (ie_var 0) (ia_cons ie_int ia_nil)))) (ig_name 1 sc_law.nd) (ib_cons (is_set 2 sc_law.nd (ie_call F__law_purse (hr.mono (by decide)) (ia_cons (ie_var 0) (ia_cons (ie_var 1) ia_nil))))
  (ib_cons (is_asg (ie_lc [("_law_again", 11)] rfl sc_law.nd (ii_range1 B.range (ia_cons ie_int ia_nil)) (fun _ => (igc_name 11 sc_law.nd)) (fun _ => its_nil) (fun _ => (ie_call F__law_quotient (hr.mono (by decide)) (ia_cons (ie_var 2) (ia_cons ie_int (ia_cons (ie_bin io_pow ie_int ie_int) ia_nil))))) (ok := blkOk_by (N := ["_law_script", "_law_k", "_law_purse_here", "_law_one", "_law_other", "_law_third", "_law_share_of_both", "_law_left_here", "_law_at", "_law_worths_here", "_law_due", "_law_again"]) (sc := defScope s_law) (by decide +kernel))) (ig_lst rfl (igs_cons (ig_name 3 sc_law.nd) (igs_cons (ig_name 4 sc_law.nd) (igs_cons (ig_name 5 sc_law.nd) igs_nil)))))
  (ib_cons (is_if (it_cmp (io_ne hr.units) (ie_call F_q_times (hr.mono (by decide)) (ia_cons (ie_call F_q_plus (hr.mono (by decide)) (ia_cons (ie_var 3) (ia_cons (ie_var 4) ia_nil))) (ia_cons (ie_var 5) ia_nil))) (ie_call F_q_plus (hr.mono (by decide)) (ia_cons (ie_call F_q_times (hr.mono (by decide)) (ia_cons (ie_var 3) (ia_cons (ie_var 5) ia_nil))) (ia_cons (ie_call F_q_times (hr.mono (by decide)) (ia_cons (ie_var 4) (ia_cons (ie_var 5) ia_nil))) ia_nil)))) (ib_one (is_ret ie_bl)) ib_nil)
  (ib_cons (is_if (it_w (iw_or (it_cmp (io_ne hr.units) (ie_call F_q_minus (hr.mono (by decide)) (ia_cons (ie_var 3) (ia_cons (ie_var 3) ia_nil))) (ie_tup (ia_cons (ie_tup ia_nil) (ia_cons (ie_tup (ia_cons ie_int ia_nil)) ia_nil)))) (iw_or1 (it_cmp (io_ne hr.units) (ie_call F_q_plus (hr.mono (by decide)) (ia_cons (ie_call F_q_minus (hr.mono (by decide)) (ia_cons (ie_var 3) (ia_cons (ie_var 4) ia_nil))) (ia_cons (ie_var 4) ia_nil))) (ie_var 3))))) (ib_one (is_ret ie_bl)) ib_nil)
  (ib_cons (is_if (it_cmp (io_ne hr.units) (ie_call F_q_slope (hr.mono (by decide)) (ia_cons (ie_call F_q_plus (hr.mono (by decide)) (ia_cons (ie_var 3) (ia_cons (ie_var 4) ia_nil))) ia_nil)) (ie_call F_q_plus (hr.mono (by decide)) (ia_cons (ie_call F_q_slope (hr.mono (by decide)) (ia_cons (ie_var 3) ia_nil)) (ia_cons (ie_call F_q_slope (hr.mono (by decide)) (ia_cons (ie_var 4) ia_nil)) ia_nil)))) (ib_one (is_ret ie_bl)) ib_nil)
  (ib_cons (is_if (it_cmp (io_ne hr.units) (ie_call F_q_slope (hr.mono (by decide)) (ia_cons (ie_call F_q_times (hr.mono (by decide)) (ia_cons (ie_var 3) (ia_cons (ie_var 4) ia_nil))) ia_nil)) (ie_call F_q_plus (hr.mono (by decide)) (ia_cons (ie_call F_q_times (hr.mono (by decide)) (ia_cons (ie_call F_q_slope (hr.mono (by decide)) (ia_cons (ie_var 3) ia_nil)) (ia_cons (ie_var 4) ia_nil))) (ia_cons (ie_call F_q_times (hr.mono (by decide)) (ia_cons (ie_var 3) (ia_cons (ie_call F_q_slope (hr.mono (by decide)) (ia_cons (ie_var 4) ia_nil)) ia_nil))) ia_nil)))) (ib_one (is_ret ie_bl)) ib_nil)
  (ib_cons (is_if (it_cmp (io_ne hr.units) (ie_ix (ie_var 4) ie_int) (ie_tup ia_nil)) (ib_cons (is_set 6 sc_law.nd (ie_call F_q_over (hr.mono (by decide)) (ia_cons (ie_var 3) (ia_cons (ie_var 4) ia_nil))))
  (ib_cons (is_if (it_w (iw_or (it_cmp (io_ne hr.units) (ie_call F_q_times (hr.mono (by decide)) (ia_cons (ie_var 6) (ia_cons (ie_var 4) ia_nil))) (ie_var 3)) (iw_or1 (it_cmp (io_ne hr.units) (ie_call F_q_over (hr.mono (by decide)) (ia_cons (ie_var 4) (ia_cons (ie_var 4) ia_nil))) (ie_tup (ia_cons (ie_tup (ia_cons ie_int ia_nil)) (ia_cons (ie_tup (ia_cons ie_int ia_nil)) ia_nil))))))) (ib_one (is_ret ie_bl)) ib_nil)
  (ib_cons (is_set 7 sc_law.nd (ie_call F_q_minus (hr.mono (by decide)) (ia_cons (ie_call F_q_times (hr.mono (by decide)) (ia_cons (ie_call F_q_slope (hr.mono (by decide)) (ia_cons (ie_var 3) ia_nil)) (ia_cons (ie_var 4) ia_nil))) (ia_cons (ie_call F_q_times (hr.mono (by decide)) (ia_cons (ie_var 3) (ia_cons (ie_call F_q_slope (hr.mono (by decide)) (ia_cons (ie_var 4) ia_nil)) ia_nil))) ia_nil))))
  (ib_one (is_if (it_cmp (io_ne hr.units) (ie_call F_q_slope (hr.mono (by decide)) (ia_cons (ie_var 6) ia_nil)) (ie_call F_q_over (hr.mono (by decide)) (ia_cons (ie_var 7) (ia_cons (ie_call F_q_times (hr.mono (by decide)) (ia_cons (ie_var 4) (ia_cons (ie_var 4) ia_nil))) ia_nil)))) (ib_one (is_ret ie_bl)) ib_nil))))) ib_nil)
  (ib_cons (is_set 8 sc_law.nd (ie_call F__law_number (hr.mono (by decide)) (ia_cons (ie_var 2) (ia_cons (ie_bin io_pow ie_int ie_int) ia_nil))))
  (ib_cons (is_set 9 sc_law.nd (ie_call F__law_worths (hr.mono (by decide)) (ia_cons (ie_tup (ia_cons (ie_var 3) (ia_cons (ie_var 4) (ia_cons (ie_var 5) ia_nil)))) (ia_cons (ie_var 8) ia_nil))))
  (ib_one (is_if (it_cmp io_notN (ie_var 9) ie_non) (ib_cons (is_set 10 sc_law.nd (ie_call F_plus (hr.mono (by decide)) (ia_cons (ie_call F_times (hr.mono (by decide)) (ia_cons (ie_ix (ie_var 9) ie_int) (ia_cons (ie_ix (ie_var 9) ie_int) ia_nil))) (ia_cons (ie_ix (ie_var 9) ie_int) ia_nil))))
  (ib_one (is_if (it_cmp (io_ne hr.units) (ie_call F_q_worth (hr.mono (by decide)) (ia_cons (ie_call F_q_plus (hr.mono (by decide)) (ia_cons (ie_call F_q_times (hr.mono (by decide)) (ia_cons (ie_var 3) (ia_cons (ie_var 4) ia_nil))) (ia_cons (ie_var 5) ia_nil))) (ia_cons (ie_var 8) ia_nil))) (ie_var 10)) (ib_one (is_ret ie_bl)) ib_nil))) ib_nil))))))))))))
  (ib_one (is_ret ie_bl)))) sem_law
end
theorem all_mk {l : PySem.W.OpenLaw} (htr : l.prog.given.tree = none) {w : World} {K : PySem.W.Frag} {h : Heap} {mg : Str → Option Value} {fa : Addr} (X : K.In h) (G : h.Ns mainGlobals mg) (hfa : mg "law" = some (.ref fa))
    {c_NoNumber c_NoPlace f__law_many f__law_draw f__law_divisor f__law_low f__law_whole f__law_number f__law_purse f__law_plain f__law_cut f__law_product f__law_sum f__law_left f__law_common f__law_divided f__law_form f__law_poly f__law_quotient f_divisor f_number T_number f_over f_plus f_times f_worth f_q_worth f__law_worths f_q_less f_figure_at f_poly f_poly_plus f_poly_times f_content f_parted f_plain f_poly_minus f_raised f_scaled f_without_head f_rest_by f_common f_long_division f_without_common f_quotient f_q_plus f_q_minus f_q_over f_poly_slope f_q_slope f_q_times f_law kc_NOUGHT kc_NOUGHT_1 kc_NOUGHT_0 : Addr} {od__law_many an__law_many od__law_draw an__law_draw od__law_divisor an__law_divisor od__law_low an__law_low od__law_whole an__law_whole od__law_number an__law_number od__law_purse an__law_purse od__law_plain an__law_plain od__law_cut an__law_cut od__law_product an__law_product od__law_sum an__law_sum od__law_left an__law_left od__law_common an__law_common od__law_divided an__law_divided od__law_form an__law_form od__law_poly an__law_poly od__law_quotient an__law_quotient od_divisor an_divisor od_number an_number to_number od_over an_over od_plus an_plus od_times an_times od_worth an_worth od_q_worth an_q_worth od__law_worths an__law_worths od_q_less an_q_less od_figure_at an_figure_at od_poly an_poly od_poly_plus an_poly_plus od_poly_times an_poly_times od_content an_content od_parted an_parted od_plain an_plain od_poly_minus an_poly_minus od_raised an_raised od_scaled an_scaled od_without_head an_without_head od_rest_by an_rest_by od_common an_common od_long_division an_long_division od_without_common an_without_common od_quotient an_quotient od_q_plus an_q_plus od_q_minus an_q_minus od_q_over an_q_over od_poly_slope an_poly_slope od_q_slope an_q_slope od_q_times an_q_times od_law an_law ko_NOUGHT ko_NOUGHT_1 ko_NOUGHT_0 : Option Addr} {sl__law_many sl__law_draw sl__law_divisor sl__law_low sl__law_whole sl__law_number sl__law_purse sl__law_plain sl__law_cut sl__law_product sl__law_sum sl__law_left sl__law_common sl__law_divided sl__law_form sl__law_poly sl__law_quotient sl_divisor sl_number ts_number sl_over sl_plus sl_times sl_worth sl_q_worth sl__law_worths sl_q_less sl_figure_at sl_poly sl_poly_plus sl_poly_times sl_content sl_parted sl_plain sl_poly_minus sl_raised sl_scaled sl_without_head sl_rest_by sl_common sl_long_division sl_without_common sl_quotient sl_q_plus sl_q_minus sl_q_over sl_poly_slope sl_q_slope sl_q_times sl_law ks_NOUGHT ks_NOUGHT_1 ks_NOUGHT_0 : Array (Option Value)} {oc__law_many kV__law_many dc__law_many pm__law_many cd__law_many ct__law_many oc__law_draw kV__law_draw dc__law_draw pm__law_draw cd__law_draw ct__law_draw oc__law_divisor kV__law_divisor dc__law_divisor pm__law_divisor cd__law_divisor ct__law_divisor oc__law_low kV__law_low dc__law_low pm__law_low cd__law_low ct__law_low oc__law_whole kV__law_whole dc__law_whole pm__law_whole cd__law_whole ct__law_whole oc__law_number kV__law_number dc__law_number pm__law_number cd__law_number ct__law_number oc__law_purse kV__law_purse dc__law_purse pm__law_purse cd__law_purse ct__law_purse oc__law_plain kV__law_plain dc__law_plain pm__law_plain cd__law_plain ct__law_plain oc__law_cut kV__law_cut dc__law_cut pm__law_cut cd__law_cut ct__law_cut oc__law_product kV__law_product dc__law_product pm__law_product cd__law_product ct__law_product oc__law_sum kV__law_sum dc__law_sum pm__law_sum cd__law_sum ct__law_sum oc__law_left kV__law_left dc__law_left pm__law_left cd__law_left ct__law_left oc__law_common kV__law_common dc__law_common pm__law_common cd__law_common ct__law_common oc__law_divided kV__law_divided dc__law_divided pm__law_divided cd__law_divided ct__law_divided oc__law_form kV__law_form dc__law_form pm__law_form cd__law_form ct__law_form oc__law_poly kV__law_poly dc__law_poly pm__law_poly cd__law_poly ct__law_poly oc__law_quotient kV__law_quotient dc__law_quotient pm__law_quotient cd__law_quotient ct__law_quotient oc_divisor kV_divisor dc_divisor pm_divisor cd_divisor ct_divisor oc_number kV_number dc_number pm_number cd_number ct_number oc_over kV_over dc_over pm_over cd_over ct_over oc_plus kV_plus dc_plus pm_plus cd_plus ct_plus oc_times kV_times dc_times pm_times cd_times ct_times oc_worth kV_worth dc_worth pm_worth cd_worth ct_worth oc_q_worth kV_q_worth dc_q_worth pm_q_worth cd_q_worth ct_q_worth oc__law_worths kV__law_worths dc__law_worths pm__law_worths cd__law_worths ct__law_worths oc_q_less kV_q_less dc_q_less pm_q_less cd_q_less ct_q_less oc_figure_at kV_figure_at dc_figure_at pm_figure_at cd_figure_at ct_figure_at oc_poly kV_poly dc_poly pm_poly cd_poly ct_poly oc_poly_plus kV_poly_plus dc_poly_plus pm_poly_plus cd_poly_plus ct_poly_plus oc_poly_times kV_poly_times dc_poly_times pm_poly_times cd_poly_times ct_poly_times oc_content kV_content dc_content pm_content cd_content ct_content oc_parted kV_parted dc_parted pm_parted cd_parted ct_parted oc_plain kV_plain dc_plain pm_plain cd_plain ct_plain oc_poly_minus kV_poly_minus dc_poly_minus pm_poly_minus cd_poly_minus ct_poly_minus oc_raised kV_raised dc_raised pm_raised cd_raised ct_raised oc_scaled kV_scaled dc_scaled pm_scaled cd_scaled ct_scaled oc_without_head kV_without_head dc_without_head pm_without_head cd_without_head ct_without_head oc_rest_by kV_rest_by dc_rest_by pm_rest_by cd_rest_by ct_rest_by oc_common kV_common dc_common pm_common cd_common ct_common oc_long_division kV_long_division dc_long_division pm_long_division cd_long_division ct_long_division oc_without_common kV_without_common dc_without_common pm_without_common cd_without_common ct_without_common oc_quotient kV_quotient dc_quotient pm_quotient cd_quotient ct_quotient oc_q_plus kV_q_plus dc_q_plus pm_q_plus cd_q_plus ct_q_plus oc_q_minus kV_q_minus dc_q_minus pm_q_minus cd_q_minus ct_q_minus oc_q_over kV_q_over dc_q_over pm_q_over cd_q_over ct_q_over oc_poly_slope kV_poly_slope dc_poly_slope pm_poly_slope cd_poly_slope ct_poly_slope oc_q_slope kV_q_slope dc_q_slope pm_q_slope cd_q_slope ct_q_slope oc_q_times kV_q_times dc_q_times pm_q_times cd_q_times ct_q_times oc_law kV_law dc_law pm_law cd_law ct_law : Value} {tk_number kk_NOUGHT_1_0 : Tok} {tn_number kn_NOUGHT kn_NOUGHT_1 kn_NOUGHT_0 : Nat}
    (a_NoNumber : PySem.W.nsIn K mainGlobals "NoNumber" = some (some (.ref c_NoNumber)))
    (a_NoPlace : PySem.W.nsIn K mainGlobals "NoPlace" = some (some (.ref c_NoPlace)))
    (q_NoNumber : PySem.W.excIn K c_NoNumber [.type "ValueError", .type "Exception", .type "BaseException", .type "object"] "ValueError.__new__" = true)
    (kp_NoNumber : PySem.W.keepIn K (.ref c_NoNumber) = true)
    (sb_NoNumber : PySem.W.subIn K (.ref c_NoNumber) (.type "BaseException") = some true)
    (ty_NoNumber : PySem.W.typeIn K (.ref c_NoNumber) = some (.type "type"))
    (q_NoPlace : PySem.W.excIn K c_NoPlace [.type "ValueError", .type "Exception", .type "BaseException", .type "object"] "ValueError.__new__" = true)
    (kp_NoPlace : PySem.W.keepIn K (.ref c_NoPlace) = true)
    (sb_NoPlace : PySem.W.subIn K (.ref c_NoPlace) (.type "BaseException") = some true)
    (ty_NoPlace : PySem.W.typeIn K (.ref c_NoPlace) = some (.type "type"))
    (dn_NoPlace : PySem.W.hasDictIn K c_NoPlace = true)
    (w1n_NoPlace : PySem.W.subIn K (.ref c_NoPlace) (.ref c_NoPlace) = some true)
    (z_len : PySem.W.nsIn K mainGlobals "len" = some none)
    (z_abs : PySem.W.nsIn K mainGlobals "abs" = some none)
    (z_max : PySem.W.nsIn K mainGlobals "max" = some none)
    (z_min : PySem.W.nsIn K mainGlobals "min" = some none)
    (z_isinstance : PySem.W.nsIn K mainGlobals "isinstance" = some none)
    (z_int : PySem.W.nsIn K mainGlobals "int" = some none)
    (z_tuple : PySem.W.nsIn K mainGlobals "tuple" = some none)
    (z_list : PySem.W.nsIn K mainGlobals "list" = some none)
    (z_bool : PySem.W.nsIn K mainGlobals "bool" = some none)
    (z_str : PySem.W.nsIn K mainGlobals "str" = some none)
    (z_all : PySem.W.nsIn K mainGlobals "all" = some none)
    (z_any : PySem.W.nsIn K mainGlobals "any" = some none)
    (z_range : PySem.W.nsIn K mainGlobals "range" = some none)
    (z_enumerate : PySem.W.nsIn K mainGlobals "enumerate" = some none)
    (z_reversed : PySem.W.nsIn K mainGlobals "reversed" = some none)
    (z_ValueError : PySem.W.nsIn K mainGlobals "ValueError" = some none)
    (a__law_many : PySem.W.nsIn K mainGlobals "_law_many" = some (some (.ref f__law_many)))
    (l__law_many : K.lookup f__law_many = some ⟨oc__law_many, od__law_many, .func (PySem.W.fnOf "_law_many" "_law_many" (defArgs s__law_many) (defBody s__law_many) (defScope s__law_many) .none kV__law_many dc__law_many pm__law_many an__law_many cd__law_many ct__law_many), sl__law_many⟩)
    (c__law_many : PySem.W.codeIn K cd__law_many "_law_many" = true)
    (k__law_many : PySem.W.keepIn K (.ref f__law_many) = true)
    (a__law_draw : PySem.W.nsIn K mainGlobals "_law_draw" = some (some (.ref f__law_draw)))
    (l__law_draw : K.lookup f__law_draw = some ⟨oc__law_draw, od__law_draw, .func (PySem.W.fnOf "_law_draw" "_law_draw" (defArgs s__law_draw) (defBody s__law_draw) (defScope s__law_draw) .none kV__law_draw dc__law_draw pm__law_draw an__law_draw cd__law_draw ct__law_draw), sl__law_draw⟩)
    (c__law_draw : PySem.W.codeIn K cd__law_draw "_law_draw" = true)
    (k__law_draw : PySem.W.keepIn K (.ref f__law_draw) = true)
    (a__law_divisor : PySem.W.nsIn K mainGlobals "_law_divisor" = some (some (.ref f__law_divisor)))
    (l__law_divisor : K.lookup f__law_divisor = some ⟨oc__law_divisor, od__law_divisor, .func (PySem.W.fnOf "_law_divisor" "_law_divisor" (defArgs s__law_divisor) (defBody s__law_divisor) (defScope s__law_divisor) .none kV__law_divisor dc__law_divisor pm__law_divisor an__law_divisor cd__law_divisor ct__law_divisor), sl__law_divisor⟩)
    (c__law_divisor : PySem.W.codeIn K cd__law_divisor "_law_divisor" = true)
    (k__law_divisor : PySem.W.keepIn K (.ref f__law_divisor) = true)
    (a__law_low : PySem.W.nsIn K mainGlobals "_law_low" = some (some (.ref f__law_low)))
    (l__law_low : K.lookup f__law_low = some ⟨oc__law_low, od__law_low, .func (PySem.W.fnOf "_law_low" "_law_low" (defArgs s__law_low) (defBody s__law_low) (defScope s__law_low) .none kV__law_low dc__law_low pm__law_low an__law_low cd__law_low ct__law_low), sl__law_low⟩)
    (c__law_low : PySem.W.codeIn K cd__law_low "_law_low" = true)
    (k__law_low : PySem.W.keepIn K (.ref f__law_low) = true)
    (a__law_whole : PySem.W.nsIn K mainGlobals "_law_whole" = some (some (.ref f__law_whole)))
    (l__law_whole : K.lookup f__law_whole = some ⟨oc__law_whole, od__law_whole, .func (PySem.W.fnOf "_law_whole" "_law_whole" (defArgs s__law_whole) (defBody s__law_whole) (defScope s__law_whole) .none kV__law_whole dc__law_whole pm__law_whole an__law_whole cd__law_whole ct__law_whole), sl__law_whole⟩)
    (c__law_whole : PySem.W.codeIn K cd__law_whole "_law_whole" = true)
    (k__law_whole : PySem.W.keepIn K (.ref f__law_whole) = true)
    (a__law_number : PySem.W.nsIn K mainGlobals "_law_number" = some (some (.ref f__law_number)))
    (l__law_number : K.lookup f__law_number = some ⟨oc__law_number, od__law_number, .func (PySem.W.fnOf "_law_number" "_law_number" (defArgs s__law_number) (defBody s__law_number) (defScope s__law_number) .none kV__law_number dc__law_number pm__law_number an__law_number cd__law_number ct__law_number), sl__law_number⟩)
    (c__law_number : PySem.W.codeIn K cd__law_number "_law_number" = true)
    (k__law_number : PySem.W.keepIn K (.ref f__law_number) = true)
    (a__law_purse : PySem.W.nsIn K mainGlobals "_law_purse" = some (some (.ref f__law_purse)))
    (l__law_purse : K.lookup f__law_purse = some ⟨oc__law_purse, od__law_purse, .func (PySem.W.fnOf "_law_purse" "_law_purse" (defArgs s__law_purse) (defBody s__law_purse) (defScope s__law_purse) .none kV__law_purse dc__law_purse pm__law_purse an__law_purse cd__law_purse ct__law_purse), sl__law_purse⟩)
    (c__law_purse : PySem.W.codeIn K cd__law_purse "_law_purse" = true)
    (k__law_purse : PySem.W.keepIn K (.ref f__law_purse) = true)
    (a__law_plain : PySem.W.nsIn K mainGlobals "_law_plain" = some (some (.ref f__law_plain)))
    (l__law_plain : K.lookup f__law_plain = some ⟨oc__law_plain, od__law_plain, .func (PySem.W.fnOf "_law_plain" "_law_plain" (defArgs s__law_plain) (defBody s__law_plain) (defScope s__law_plain) .none kV__law_plain dc__law_plain pm__law_plain an__law_plain cd__law_plain ct__law_plain), sl__law_plain⟩)
    (c__law_plain : PySem.W.codeIn K cd__law_plain "_law_plain" = true)
    (k__law_plain : PySem.W.keepIn K (.ref f__law_plain) = true)
    (a__law_cut : PySem.W.nsIn K mainGlobals "_law_cut" = some (some (.ref f__law_cut)))
    (l__law_cut : K.lookup f__law_cut = some ⟨oc__law_cut, od__law_cut, .func (PySem.W.fnOf "_law_cut" "_law_cut" (defArgs s__law_cut) (defBody s__law_cut) (defScope s__law_cut) .none kV__law_cut dc__law_cut pm__law_cut an__law_cut cd__law_cut ct__law_cut), sl__law_cut⟩)
    (c__law_cut : PySem.W.codeIn K cd__law_cut "_law_cut" = true)
    (k__law_cut : PySem.W.keepIn K (.ref f__law_cut) = true)
    (a__law_product : PySem.W.nsIn K mainGlobals "_law_product" = some (some (.ref f__law_product)))
    (l__law_product : K.lookup f__law_product = some ⟨oc__law_product, od__law_product, .func (PySem.W.fnOf "_law_product" "_law_product" (defArgs s__law_product) (defBody s__law_product) (defScope s__law_product) .none kV__law_product dc__law_product pm__law_product an__law_product cd__law_product ct__law_product), sl__law_product⟩)
    (c__law_product : PySem.W.codeIn K cd__law_product "_law_product" = true)
    (k__law_product : PySem.W.keepIn K (.ref f__law_product) = true)
    (a__law_sum : PySem.W.nsIn K mainGlobals "_law_sum" = some (some (.ref f__law_sum)))
    (l__law_sum : K.lookup f__law_sum = some ⟨oc__law_sum, od__law_sum, .func (PySem.W.fnOf "_law_sum" "_law_sum" (defArgs s__law_sum) (defBody s__law_sum) (defScope s__law_sum) .none kV__law_sum dc__law_sum pm__law_sum an__law_sum cd__law_sum ct__law_sum), sl__law_sum⟩)
    (c__law_sum : PySem.W.codeIn K cd__law_sum "_law_sum" = true)
    (k__law_sum : PySem.W.keepIn K (.ref f__law_sum) = true)
    (a__law_left : PySem.W.nsIn K mainGlobals "_law_left" = some (some (.ref f__law_left)))
    (l__law_left : K.lookup f__law_left = some ⟨oc__law_left, od__law_left, .func (PySem.W.fnOf "_law_left" "_law_left" (defArgs s__law_left) (defBody s__law_left) (defScope s__law_left) .none kV__law_left dc__law_left pm__law_left an__law_left cd__law_left ct__law_left), sl__law_left⟩)
    (c__law_left : PySem.W.codeIn K cd__law_left "_law_left" = true)
    (k__law_left : PySem.W.keepIn K (.ref f__law_left) = true)
    (a__law_common : PySem.W.nsIn K mainGlobals "_law_common" = some (some (.ref f__law_common)))
    (l__law_common : K.lookup f__law_common = some ⟨oc__law_common, od__law_common, .func (PySem.W.fnOf "_law_common" "_law_common" (defArgs s__law_common) (defBody s__law_common) (defScope s__law_common) .none kV__law_common dc__law_common pm__law_common an__law_common cd__law_common ct__law_common), sl__law_common⟩)
    (c__law_common : PySem.W.codeIn K cd__law_common "_law_common" = true)
    (k__law_common : PySem.W.keepIn K (.ref f__law_common) = true)
    (a__law_divided : PySem.W.nsIn K mainGlobals "_law_divided" = some (some (.ref f__law_divided)))
    (l__law_divided : K.lookup f__law_divided = some ⟨oc__law_divided, od__law_divided, .func (PySem.W.fnOf "_law_divided" "_law_divided" (defArgs s__law_divided) (defBody s__law_divided) (defScope s__law_divided) .none kV__law_divided dc__law_divided pm__law_divided an__law_divided cd__law_divided ct__law_divided), sl__law_divided⟩)
    (c__law_divided : PySem.W.codeIn K cd__law_divided "_law_divided" = true)
    (k__law_divided : PySem.W.keepIn K (.ref f__law_divided) = true)
    (a__law_form : PySem.W.nsIn K mainGlobals "_law_form" = some (some (.ref f__law_form)))
    (l__law_form : K.lookup f__law_form = some ⟨oc__law_form, od__law_form, .func (PySem.W.fnOf "_law_form" "_law_form" (defArgs s__law_form) (defBody s__law_form) (defScope s__law_form) .none kV__law_form dc__law_form pm__law_form an__law_form cd__law_form ct__law_form), sl__law_form⟩)
    (c__law_form : PySem.W.codeIn K cd__law_form "_law_form" = true)
    (k__law_form : PySem.W.keepIn K (.ref f__law_form) = true)
    (a__law_poly : PySem.W.nsIn K mainGlobals "_law_poly" = some (some (.ref f__law_poly)))
    (l__law_poly : K.lookup f__law_poly = some ⟨oc__law_poly, od__law_poly, .func (PySem.W.fnOf "_law_poly" "_law_poly" (defArgs s__law_poly) (defBody s__law_poly) (defScope s__law_poly) .none kV__law_poly dc__law_poly pm__law_poly an__law_poly cd__law_poly ct__law_poly), sl__law_poly⟩)
    (c__law_poly : PySem.W.codeIn K cd__law_poly "_law_poly" = true)
    (k__law_poly : PySem.W.keepIn K (.ref f__law_poly) = true)
    (a__law_quotient : PySem.W.nsIn K mainGlobals "_law_quotient" = some (some (.ref f__law_quotient)))
    (l__law_quotient : K.lookup f__law_quotient = some ⟨oc__law_quotient, od__law_quotient, .func (PySem.W.fnOf "_law_quotient" "_law_quotient" (defArgs s__law_quotient) (defBody s__law_quotient) (defScope s__law_quotient) .none kV__law_quotient dc__law_quotient pm__law_quotient an__law_quotient cd__law_quotient ct__law_quotient), sl__law_quotient⟩)
    (c__law_quotient : PySem.W.codeIn K cd__law_quotient "_law_quotient" = true)
    (k__law_quotient : PySem.W.keepIn K (.ref f__law_quotient) = true)
    (a_divisor : PySem.W.nsIn K mainGlobals "divisor" = some (some (.ref f_divisor)))
    (l_divisor : K.lookup f_divisor = some ⟨oc_divisor, od_divisor, .func (PySem.W.fnOf "divisor" "divisor" (defArgs s_divisor) (defBody s_divisor) (defScope s_divisor) .none kV_divisor dc_divisor pm_divisor an_divisor cd_divisor ct_divisor), sl_divisor⟩)
    (c_divisor : PySem.W.codeIn K cd_divisor "divisor" = true)
    (k_divisor : PySem.W.keepIn K (.ref f_divisor) = true)
    (a_number : PySem.W.nsIn K mainGlobals "number" = some (some (.ref f_number)))
    (l_number : K.lookup f_number = some ⟨oc_number, od_number, .func (PySem.W.fnOf "number" "number" (defArgs s_number) (defBody s_number) (defScope s_number) (.ref T_number) kV_number dc_number pm_number an_number cd_number ct_number), sl_number⟩)
    (c_number : PySem.W.codeIn K cd_number "number" = true)
    (k_number : PySem.W.keepIn K (.ref f_number) = true)
    (d_number : K.lookup T_number = some ⟨.type "tuple", to_number, .seq #[.int 1 tk_number] tn_number, ts_number⟩)
    (a_over : PySem.W.nsIn K mainGlobals "over" = some (some (.ref f_over)))
    (l_over : K.lookup f_over = some ⟨oc_over, od_over, .func (PySem.W.fnOf "over" "over" (defArgs s_over) (defBody s_over) (defScope s_over) .none kV_over dc_over pm_over an_over cd_over ct_over), sl_over⟩)
    (c_over : PySem.W.codeIn K cd_over "over" = true)
    (k_over : PySem.W.keepIn K (.ref f_over) = true)
    (a_plus : PySem.W.nsIn K mainGlobals "plus" = some (some (.ref f_plus)))
    (l_plus : K.lookup f_plus = some ⟨oc_plus, od_plus, .func (PySem.W.fnOf "plus" "plus" (defArgs s_plus) (defBody s_plus) (defScope s_plus) .none kV_plus dc_plus pm_plus an_plus cd_plus ct_plus), sl_plus⟩)
    (c_plus : PySem.W.codeIn K cd_plus "plus" = true)
    (k_plus : PySem.W.keepIn K (.ref f_plus) = true)
    (a_times : PySem.W.nsIn K mainGlobals "times" = some (some (.ref f_times)))
    (l_times : K.lookup f_times = some ⟨oc_times, od_times, .func (PySem.W.fnOf "times" "times" (defArgs s_times) (defBody s_times) (defScope s_times) .none kV_times dc_times pm_times an_times cd_times ct_times), sl_times⟩)
    (c_times : PySem.W.codeIn K cd_times "times" = true)
    (k_times : PySem.W.keepIn K (.ref f_times) = true)
    (a_worth : PySem.W.nsIn K mainGlobals "worth" = some (some (.ref f_worth)))
    (l_worth : K.lookup f_worth = some ⟨oc_worth, od_worth, .func (PySem.W.fnOf "worth" "worth" (defArgs s_worth) (defBody s_worth) (defScope s_worth) .none kV_worth dc_worth pm_worth an_worth cd_worth ct_worth), sl_worth⟩)
    (c_worth : PySem.W.codeIn K cd_worth "worth" = true)
    (k_worth : PySem.W.keepIn K (.ref f_worth) = true)
    (a_q_worth : PySem.W.nsIn K mainGlobals "q_worth" = some (some (.ref f_q_worth)))
    (l_q_worth : K.lookup f_q_worth = some ⟨oc_q_worth, od_q_worth, .func (PySem.W.fnOf "q_worth" "q_worth" (defArgs s_q_worth) (defBody s_q_worth) (defScope s_q_worth) .none kV_q_worth dc_q_worth pm_q_worth an_q_worth cd_q_worth ct_q_worth), sl_q_worth⟩)
    (c_q_worth : PySem.W.codeIn K cd_q_worth "q_worth" = true)
    (k_q_worth : PySem.W.keepIn K (.ref f_q_worth) = true)
    (a__law_worths : PySem.W.nsIn K mainGlobals "_law_worths" = some (some (.ref f__law_worths)))
    (l__law_worths : K.lookup f__law_worths = some ⟨oc__law_worths, od__law_worths, .func (PySem.W.fnOf "_law_worths" "_law_worths" (defArgs s__law_worths) (defBody s__law_worths) (defScope s__law_worths) .none kV__law_worths dc__law_worths pm__law_worths an__law_worths cd__law_worths ct__law_worths), sl__law_worths⟩)
    (c__law_worths : PySem.W.codeIn K cd__law_worths "_law_worths" = true)
    (k__law_worths : PySem.W.keepIn K (.ref f__law_worths) = true)
    (a_q_less : PySem.W.nsIn K mainGlobals "q_less" = some (some (.ref f_q_less)))
    (l_q_less : K.lookup f_q_less = some ⟨oc_q_less, od_q_less, .func (PySem.W.fnOf "q_less" "q_less" (defArgs s_q_less) (defBody s_q_less) (defScope s_q_less) .none kV_q_less dc_q_less pm_q_less an_q_less cd_q_less ct_q_less), sl_q_less⟩)
    (c_q_less : PySem.W.codeIn K cd_q_less "q_less" = true)
    (k_q_less : PySem.W.keepIn K (.ref f_q_less) = true)
    (a_figure_at : PySem.W.nsIn K mainGlobals "figure_at" = some (some (.ref f_figure_at)))
    (l_figure_at : K.lookup f_figure_at = some ⟨oc_figure_at, od_figure_at, .func (PySem.W.fnOf "figure_at" "figure_at" (defArgs s_figure_at) (defBody s_figure_at) (defScope s_figure_at) .none kV_figure_at dc_figure_at pm_figure_at an_figure_at cd_figure_at ct_figure_at), sl_figure_at⟩)
    (c_figure_at : PySem.W.codeIn K cd_figure_at "figure_at" = true)
    (k_figure_at : PySem.W.keepIn K (.ref f_figure_at) = true)
    (a_poly : PySem.W.nsIn K mainGlobals "poly" = some (some (.ref f_poly)))
    (l_poly : K.lookup f_poly = some ⟨oc_poly, od_poly, .func (PySem.W.fnOf "poly" "poly" (defArgs s_poly) (defBody s_poly) (defScope s_poly) .none kV_poly dc_poly pm_poly an_poly cd_poly ct_poly), sl_poly⟩)
    (c_poly : PySem.W.codeIn K cd_poly "poly" = true)
    (k_poly : PySem.W.keepIn K (.ref f_poly) = true)
    (a_poly_plus : PySem.W.nsIn K mainGlobals "poly_plus" = some (some (.ref f_poly_plus)))
    (l_poly_plus : K.lookup f_poly_plus = some ⟨oc_poly_plus, od_poly_plus, .func (PySem.W.fnOf "poly_plus" "poly_plus" (defArgs s_poly_plus) (defBody s_poly_plus) (defScope s_poly_plus) .none kV_poly_plus dc_poly_plus pm_poly_plus an_poly_plus cd_poly_plus ct_poly_plus), sl_poly_plus⟩)
    (c_poly_plus : PySem.W.codeIn K cd_poly_plus "poly_plus" = true)
    (k_poly_plus : PySem.W.keepIn K (.ref f_poly_plus) = true)
    (a_poly_times : PySem.W.nsIn K mainGlobals "poly_times" = some (some (.ref f_poly_times)))
    (l_poly_times : K.lookup f_poly_times = some ⟨oc_poly_times, od_poly_times, .func (PySem.W.fnOf "poly_times" "poly_times" (defArgs s_poly_times) (defBody s_poly_times) (defScope s_poly_times) .none kV_poly_times dc_poly_times pm_poly_times an_poly_times cd_poly_times ct_poly_times), sl_poly_times⟩)
    (c_poly_times : PySem.W.codeIn K cd_poly_times "poly_times" = true)
    (k_poly_times : PySem.W.keepIn K (.ref f_poly_times) = true)
    (a_content : PySem.W.nsIn K mainGlobals "content" = some (some (.ref f_content)))
    (l_content : K.lookup f_content = some ⟨oc_content, od_content, .func (PySem.W.fnOf "content" "content" (defArgs s_content) (defBody s_content) (defScope s_content) .none kV_content dc_content pm_content an_content cd_content ct_content), sl_content⟩)
    (c_content : PySem.W.codeIn K cd_content "content" = true)
    (k_content : PySem.W.keepIn K (.ref f_content) = true)
    (a_parted : PySem.W.nsIn K mainGlobals "parted" = some (some (.ref f_parted)))
    (l_parted : K.lookup f_parted = some ⟨oc_parted, od_parted, .func (PySem.W.fnOf "parted" "parted" (defArgs s_parted) (defBody s_parted) (defScope s_parted) .none kV_parted dc_parted pm_parted an_parted cd_parted ct_parted), sl_parted⟩)
    (c_parted : PySem.W.codeIn K cd_parted "parted" = true)
    (k_parted : PySem.W.keepIn K (.ref f_parted) = true)
    (a_plain : PySem.W.nsIn K mainGlobals "plain" = some (some (.ref f_plain)))
    (l_plain : K.lookup f_plain = some ⟨oc_plain, od_plain, .func (PySem.W.fnOf "plain" "plain" (defArgs s_plain) (defBody s_plain) (defScope s_plain) .none kV_plain dc_plain pm_plain an_plain cd_plain ct_plain), sl_plain⟩)
    (c_plain : PySem.W.codeIn K cd_plain "plain" = true)
    (k_plain : PySem.W.keepIn K (.ref f_plain) = true)
    (a_poly_minus : PySem.W.nsIn K mainGlobals "poly_minus" = some (some (.ref f_poly_minus)))
    (l_poly_minus : K.lookup f_poly_minus = some ⟨oc_poly_minus, od_poly_minus, .func (PySem.W.fnOf "poly_minus" "poly_minus" (defArgs s_poly_minus) (defBody s_poly_minus) (defScope s_poly_minus) .none kV_poly_minus dc_poly_minus pm_poly_minus an_poly_minus cd_poly_minus ct_poly_minus), sl_poly_minus⟩)
    (c_poly_minus : PySem.W.codeIn K cd_poly_minus "poly_minus" = true)
    (k_poly_minus : PySem.W.keepIn K (.ref f_poly_minus) = true)
    (a_raised : PySem.W.nsIn K mainGlobals "raised" = some (some (.ref f_raised)))
    (l_raised : K.lookup f_raised = some ⟨oc_raised, od_raised, .func (PySem.W.fnOf "raised" "raised" (defArgs s_raised) (defBody s_raised) (defScope s_raised) .none kV_raised dc_raised pm_raised an_raised cd_raised ct_raised), sl_raised⟩)
    (c_raised : PySem.W.codeIn K cd_raised "raised" = true)
    (k_raised : PySem.W.keepIn K (.ref f_raised) = true)
    (a_scaled : PySem.W.nsIn K mainGlobals "scaled" = some (some (.ref f_scaled)))
    (l_scaled : K.lookup f_scaled = some ⟨oc_scaled, od_scaled, .func (PySem.W.fnOf "scaled" "scaled" (defArgs s_scaled) (defBody s_scaled) (defScope s_scaled) .none kV_scaled dc_scaled pm_scaled an_scaled cd_scaled ct_scaled), sl_scaled⟩)
    (c_scaled : PySem.W.codeIn K cd_scaled "scaled" = true)
    (k_scaled : PySem.W.keepIn K (.ref f_scaled) = true)
    (a_without_head : PySem.W.nsIn K mainGlobals "without_head" = some (some (.ref f_without_head)))
    (l_without_head : K.lookup f_without_head = some ⟨oc_without_head, od_without_head, .func (PySem.W.fnOf "without_head" "without_head" (defArgs s_without_head) (defBody s_without_head) (defScope s_without_head) .none kV_without_head dc_without_head pm_without_head an_without_head cd_without_head ct_without_head), sl_without_head⟩)
    (c_without_head : PySem.W.codeIn K cd_without_head "without_head" = true)
    (k_without_head : PySem.W.keepIn K (.ref f_without_head) = true)
    (a_rest_by : PySem.W.nsIn K mainGlobals "rest_by" = some (some (.ref f_rest_by)))
    (l_rest_by : K.lookup f_rest_by = some ⟨oc_rest_by, od_rest_by, .func (PySem.W.fnOf "rest_by" "rest_by" (defArgs s_rest_by) (defBody s_rest_by) (defScope s_rest_by) .none kV_rest_by dc_rest_by pm_rest_by an_rest_by cd_rest_by ct_rest_by), sl_rest_by⟩)
    (c_rest_by : PySem.W.codeIn K cd_rest_by "rest_by" = true)
    (k_rest_by : PySem.W.keepIn K (.ref f_rest_by) = true)
    (a_common : PySem.W.nsIn K mainGlobals "common" = some (some (.ref f_common)))
    (l_common : K.lookup f_common = some ⟨oc_common, od_common, .func (PySem.W.fnOf "common" "common" (defArgs s_common) (defBody s_common) (defScope s_common) .none kV_common dc_common pm_common an_common cd_common ct_common), sl_common⟩)
    (c_common : PySem.W.codeIn K cd_common "common" = true)
    (k_common : PySem.W.keepIn K (.ref f_common) = true)
    (a_long_division : PySem.W.nsIn K mainGlobals "long_division" = some (some (.ref f_long_division)))
    (l_long_division : K.lookup f_long_division = some ⟨oc_long_division, od_long_division, .func (PySem.W.fnOf "long_division" "long_division" (defArgs s_long_division) (defBody s_long_division) (defScope s_long_division) .none kV_long_division dc_long_division pm_long_division an_long_division cd_long_division ct_long_division), sl_long_division⟩)
    (c_long_division : PySem.W.codeIn K cd_long_division "long_division" = true)
    (k_long_division : PySem.W.keepIn K (.ref f_long_division) = true)
    (a_without_common : PySem.W.nsIn K mainGlobals "without_common" = some (some (.ref f_without_common)))
    (l_without_common : K.lookup f_without_common = some ⟨oc_without_common, od_without_common, .func (PySem.W.fnOf "without_common" "without_common" (defArgs s_without_common) (defBody s_without_common) (defScope s_without_common) .none kV_without_common dc_without_common pm_without_common an_without_common cd_without_common ct_without_common), sl_without_common⟩)
    (c_without_common : PySem.W.codeIn K cd_without_common "without_common" = true)
    (k_without_common : PySem.W.keepIn K (.ref f_without_common) = true)
    (a_quotient : PySem.W.nsIn K mainGlobals "quotient" = some (some (.ref f_quotient)))
    (l_quotient : K.lookup f_quotient = some ⟨oc_quotient, od_quotient, .func (PySem.W.fnOf "quotient" "quotient" (defArgs s_quotient) (defBody s_quotient) (defScope s_quotient) .none kV_quotient dc_quotient pm_quotient an_quotient cd_quotient ct_quotient), sl_quotient⟩)
    (c_quotient : PySem.W.codeIn K cd_quotient "quotient" = true)
    (k_quotient : PySem.W.keepIn K (.ref f_quotient) = true)
    (a_q_plus : PySem.W.nsIn K mainGlobals "q_plus" = some (some (.ref f_q_plus)))
    (l_q_plus : K.lookup f_q_plus = some ⟨oc_q_plus, od_q_plus, .func (PySem.W.fnOf "q_plus" "q_plus" (defArgs s_q_plus) (defBody s_q_plus) (defScope s_q_plus) .none kV_q_plus dc_q_plus pm_q_plus an_q_plus cd_q_plus ct_q_plus), sl_q_plus⟩)
    (c_q_plus : PySem.W.codeIn K cd_q_plus "q_plus" = true)
    (k_q_plus : PySem.W.keepIn K (.ref f_q_plus) = true)
    (a_q_minus : PySem.W.nsIn K mainGlobals "q_minus" = some (some (.ref f_q_minus)))
    (l_q_minus : K.lookup f_q_minus = some ⟨oc_q_minus, od_q_minus, .func (PySem.W.fnOf "q_minus" "q_minus" (defArgs s_q_minus) (defBody s_q_minus) (defScope s_q_minus) .none kV_q_minus dc_q_minus pm_q_minus an_q_minus cd_q_minus ct_q_minus), sl_q_minus⟩)
    (c_q_minus : PySem.W.codeIn K cd_q_minus "q_minus" = true)
    (k_q_minus : PySem.W.keepIn K (.ref f_q_minus) = true)
    (a_q_over : PySem.W.nsIn K mainGlobals "q_over" = some (some (.ref f_q_over)))
    (l_q_over : K.lookup f_q_over = some ⟨oc_q_over, od_q_over, .func (PySem.W.fnOf "q_over" "q_over" (defArgs s_q_over) (defBody s_q_over) (defScope s_q_over) .none kV_q_over dc_q_over pm_q_over an_q_over cd_q_over ct_q_over), sl_q_over⟩)
    (c_q_over : PySem.W.codeIn K cd_q_over "q_over" = true)
    (k_q_over : PySem.W.keepIn K (.ref f_q_over) = true)
    (a_poly_slope : PySem.W.nsIn K mainGlobals "poly_slope" = some (some (.ref f_poly_slope)))
    (l_poly_slope : K.lookup f_poly_slope = some ⟨oc_poly_slope, od_poly_slope, .func (PySem.W.fnOf "poly_slope" "poly_slope" (defArgs s_poly_slope) (defBody s_poly_slope) (defScope s_poly_slope) .none kV_poly_slope dc_poly_slope pm_poly_slope an_poly_slope cd_poly_slope ct_poly_slope), sl_poly_slope⟩)
    (c_poly_slope : PySem.W.codeIn K cd_poly_slope "poly_slope" = true)
    (k_poly_slope : PySem.W.keepIn K (.ref f_poly_slope) = true)
    (a_q_slope : PySem.W.nsIn K mainGlobals "q_slope" = some (some (.ref f_q_slope)))
    (l_q_slope : K.lookup f_q_slope = some ⟨oc_q_slope, od_q_slope, .func (PySem.W.fnOf "q_slope" "q_slope" (defArgs s_q_slope) (defBody s_q_slope) (defScope s_q_slope) .none kV_q_slope dc_q_slope pm_q_slope an_q_slope cd_q_slope ct_q_slope), sl_q_slope⟩)
    (c_q_slope : PySem.W.codeIn K cd_q_slope "q_slope" = true)
    (k_q_slope : PySem.W.keepIn K (.ref f_q_slope) = true)
    (a_q_times : PySem.W.nsIn K mainGlobals "q_times" = some (some (.ref f_q_times)))
    (l_q_times : K.lookup f_q_times = some ⟨oc_q_times, od_q_times, .func (PySem.W.fnOf "q_times" "q_times" (defArgs s_q_times) (defBody s_q_times) (defScope s_q_times) .none kV_q_times dc_q_times pm_q_times an_q_times cd_q_times ct_q_times), sl_q_times⟩)
    (c_q_times : PySem.W.codeIn K cd_q_times "q_times" = true)
    (k_q_times : PySem.W.keepIn K (.ref f_q_times) = true)
    (a_law : PySem.W.nsIn K mainGlobals "law" = some (some (.ref f_law)))
    (l_law : K.lookup f_law = some ⟨oc_law, od_law, .func (PySem.W.fnOf "law" "law" (defArgs s_law) (defBody s_law) (defScope s_law) .none kV_law dc_law pm_law an_law cd_law ct_law), sl_law⟩)
    (c_law : PySem.W.codeIn K cd_law "law" = true)
    (k_law : PySem.W.keepIn K (.ref f_law) = true)
    (a_NOUGHT : PySem.W.nsIn K mainGlobals "NOUGHT" = some (some (.ref kc_NOUGHT)))
    (ku_NOUGHT : K.lookup kc_NOUGHT = some ⟨.type "tuple", ko_NOUGHT, .seq #[.ref kc_NOUGHT_0, .ref kc_NOUGHT_1] kn_NOUGHT, ks_NOUGHT⟩)
    (ku_NOUGHT_1 : K.lookup kc_NOUGHT_1 = some ⟨.type "tuple", ko_NOUGHT_1, .seq #[.int 1 kk_NOUGHT_1_0] kn_NOUGHT_1, ks_NOUGHT_1⟩)
    (ku_NOUGHT_0 : K.lookup kc_NOUGHT_0 = some ⟨.type "tuple", ko_NOUGHT_0, .seq #[] kn_NOUGHT_0, ks_NOUGHT_0⟩) :
    ∃ (fd : FuncData) (sp : DSp), (∀ (s : Shared) (u : Value), BindsTo s fd ⟨[u], []⟩ [("_law_script", u)]) ∧ (∀ ns : List Int, ns.length ≤ 63 → sp [.ltv (ns.map D.int)] (fun _ => none) (fun d _ => d = .bl true) fun _ _ => False) ∧
      ∀ base : Heap, K.In base → base.Ns mainGlobals mg → base.NoSeer → FnOk l.prog w K mg base (L2.CX l.prog w) 41 fa fd ["_law_script"] (upF K sp) := by
  have e := hfa.symm.trans (PySem.W.mg_of X G a_law)
  cases e
  have B : BT mg := ⟨PySem.W.mg_none_of X G z_len, PySem.W.mg_none_of X G z_abs, PySem.W.mg_none_of X G z_max, PySem.W.mg_none_of X G z_min, PySem.W.mg_none_of X G z_isinstance, PySem.W.mg_none_of X G z_int, PySem.W.mg_none_of X G z_tuple, PySem.W.mg_none_of X G z_list, PySem.W.mg_none_of X G z_bool, PySem.W.mg_none_of X G z_str, PySem.W.mg_none_of X G z_all, PySem.W.mg_none_of X G z_any, PySem.W.mg_none_of X G z_range, PySem.W.mg_none_of X G z_enumerate, PySem.W.mg_none_of X G z_reversed, PySem.W.mg_none_of X G z_ValueError⟩
  obtain ⟨C, hC⟩ : ∃ C : Cs, C = ⟨0, c_NoNumber, c_NoPlace, 0, 0, 0, 0⟩ := ⟨_, rfl⟩
  have T : Tx K mg C := ⟨by rw [hC]; exact ⟨q_NoNumber, PySem.W.mg_of X G a_NoNumber, kp_NoNumber, sb_NoNumber, ty_NoNumber⟩,
    by rw [hC]; exact ⟨q_NoPlace, PySem.W.mg_of X G a_NoPlace, kp_NoPlace, sb_NoPlace, ty_NoPlace⟩,
    by rw [hC]; exact PySem.W.mg_of X G a_NoPlace,
    by rw [hC]; exact PySem.W.exm_ref sb_NoPlace dn_NoPlace ty_NoPlace w1n_NoPlace,
    ⟨_, PySem.W.mg_of X G a_NOUGHT, (.tup ku_NOUGHT (show 2 ≤ sizeLine by decide) (.cons (.tup ku_NOUGHT_0 (show 0 ≤ sizeLine by decide) .nil) (.cons (.tup ku_NOUGHT_1 (show 1 ≤ sizeLine by decide) (.cons (.int _ _) .nil)) .nil)))⟩⟩
  have F__law_many := fun_mk (st := s__law_many) l__law_many c__law_many k__law_many
  have b__law_many := F__law_many.binds (ps := ["_law_script", "_law_most"]) fun _ _ _ _ _ _ us hl => match us, hl with | [_, _], _ => rfl
  have F__law_draw := fun_mk (st := s__law_draw) l__law_draw c__law_draw k__law_draw
  have b__law_draw := F__law_draw.binds (ps := ["_law_purse_here", "_law_many_here"]) fun _ _ _ _ _ _ us hl => match us, hl with | [_, _], _ => rfl
  have F__law_divisor := fun_mk (st := s__law_divisor) l__law_divisor c__law_divisor k__law_divisor
  have b__law_divisor := F__law_divisor.binds (ps := ["_law_one", "_law_other"]) fun _ _ _ _ _ _ us hl => match us, hl with | [_, _], _ => rfl
  have F__law_low := fun_mk (st := s__law_low) l__law_low c__law_low k__law_low
  have b__law_low := F__law_low.binds (ps := ["_law_top", "_law_bottom"]) fun _ _ _ _ _ _ us hl => match us, hl with | [_, _], _ => rfl
  have F__law_whole := fun_mk (st := s__law_whole) l__law_whole c__law_whole k__law_whole
  have b__law_whole := F__law_whole.binds (ps := ["_law_purse_here", "_law_most"]) fun _ _ _ _ _ _ us hl => match us, hl with | [_, _], _ => rfl
  have F__law_number := fun_mk (st := s__law_number) l__law_number c__law_number k__law_number
  have b__law_number := F__law_number.binds (ps := ["_law_purse_here", "_law_most"]) fun _ _ _ _ _ _ us hl => match us, hl with | [_, _], _ => rfl
  have F__law_purse := fun_mk (st := s__law_purse) l__law_purse c__law_purse k__law_purse
  have b__law_purse := F__law_purse.binds (ps := ["_law_script", "_law_at"]) fun _ _ _ _ _ _ us hl => match us, hl with | [_, _], _ => rfl
  have F__law_plain := fun_mk (st := s__law_plain) l__law_plain c__law_plain k__law_plain
  have b__law_plain := F__law_plain.binds (ps := ["_law_one"]) fun _ _ _ _ _ _ us hl => match us, hl with | [_], _ => rfl
  have F__law_cut := fun_mk (st := s__law_cut) l__law_cut c__law_cut k__law_cut
  have b__law_cut := F__law_cut.binds (ps := ["_law_line"]) fun _ _ _ _ _ _ us hl => match us, hl with | [_], _ => rfl
  have F__law_product := fun_mk (st := s__law_product) l__law_product c__law_product k__law_product
  have b__law_product := F__law_product.binds (ps := ["_law_one", "_law_other"]) fun _ _ _ _ _ _ us hl => match us, hl with | [_, _], _ => rfl
  have F__law_sum := fun_mk (st := s__law_sum) l__law_sum c__law_sum k__law_sum
  have b__law_sum := F__law_sum.binds (ps := ["_law_one", "_law_other", "_law_often"]) fun _ _ _ _ _ _ us hl => match us, hl with | [_, _, _], _ => rfl
  have F__law_left := fun_mk (st := s__law_left) l__law_left c__law_left k__law_left
  have b__law_left := F__law_left.binds (ps := ["_law_one", "_law_other"]) fun _ _ _ _ _ _ us hl => match us, hl with | [_, _], _ => rfl
  have F__law_common := fun_mk (st := s__law_common) l__law_common c__law_common k__law_common
  have b__law_common := F__law_common.binds (ps := ["_law_one", "_law_other"]) fun _ _ _ _ _ _ us hl => match us, hl with | [_, _], _ => rfl
  have F__law_divided := fun_mk (st := s__law_divided) l__law_divided c__law_divided k__law_divided
  have b__law_divided := F__law_divided.binds (ps := ["_law_one", "_law_part"]) fun _ _ _ _ _ _ us hl => match us, hl with | [_, _], _ => rfl
  have F__law_form := fun_mk (st := s__law_form) l__law_form c__law_form k__law_form
  have b__law_form := F__law_form.binds (ps := ["_law_top", "_law_bottom"]) fun _ _ _ _ _ _ us hl => match us, hl with | [_, _], _ => rfl
  have F__law_poly := fun_mk (st := s__law_poly) l__law_poly c__law_poly k__law_poly
  have b__law_poly := F__law_poly.binds (ps := ["_law_purse_here", "_law_most", "_law_signs"]) fun _ _ _ _ _ _ us hl => match us, hl with | [_, _, _], _ => rfl
  have F__law_quotient := fun_mk (st := s__law_quotient) l__law_quotient c__law_quotient k__law_quotient
  have b__law_quotient := F__law_quotient.binds (ps := ["_law_purse_here", "_law_most", "_law_signs"]) fun _ _ _ _ _ _ us hl => match us, hl with | [_, _, _], _ => rfl
  have F_divisor := fun_mk (st := s_divisor) l_divisor c_divisor k_divisor
  have b_divisor := F_divisor.binds (ps := ["one", "other"]) fun _ _ _ _ _ _ us hl => match us, hl with | [_, _], _ => rfl
  have D_number : FunD K "number" "number" (defArgs s_number) (defBody s_number) (defScope s_number) [.int 1] [] f_number _ := ⟨⟨_, _, _, _, _, _, _, _, _, _, rfl, l_number, c_number, .inr ⟨by simp, _, _, [.int 1 tk_number], _, rfl, d_number, rfl, .cons ⟨_, rfl⟩ .nil⟩, .inl rfl⟩, k_number⟩
  have R_number : TxD K "number" "number" s_number f_number _ := ⟨⟨_, _, _, _, _, _, _, _, _, _, rfl, l_number, c_number⟩, k_number⟩
  obtain ⟨e0_number, v0_number, b0_number⟩ := D_number.binds1 (ps := ["top", "bottom"]) 2 1 (by simp) rfl fun T kV doc pm an cdv ct us its h1 h2 => match us, its, h1, h2 with | [_, _], [_], _, _ => ⟨_, rfl, rfl⟩
  obtain ⟨e1_number, v1_number, b1_number⟩ := D_number.binds1 (ps := ["top", "bottom"]) 1 0 (by simp) rfl fun T kV doc pm an cdv ct us its h1 h2 => match us, its, h1, h2 with | [_], [_], _, _ => ⟨_, rfl, rfl⟩
  have F_over := fun_mk (st := s_over) l_over c_over k_over
  have b_over := F_over.binds (ps := ["one", "other"]) fun _ _ _ _ _ _ us hl => match us, hl with | [_, _], _ => rfl
  have F_plus := fun_mk (st := s_plus) l_plus c_plus k_plus
  have b_plus := F_plus.binds (ps := ["one", "other"]) fun _ _ _ _ _ _ us hl => match us, hl with | [_, _], _ => rfl
  have F_times := fun_mk (st := s_times) l_times c_times k_times
  have b_times := F_times.binds (ps := ["one", "other"]) fun _ _ _ _ _ _ us hl => match us, hl with | [_, _], _ => rfl
  have F_worth := fun_mk (st := s_worth) l_worth c_worth k_worth
  have b_worth := F_worth.binds (ps := ["one", "at"]) fun _ _ _ _ _ _ us hl => match us, hl with | [_, _], _ => rfl
  have F_q_worth := fun_mk (st := s_q_worth) l_q_worth c_q_worth k_q_worth
  have b_q_worth := F_q_worth.binds (ps := ["one", "at"]) fun _ _ _ _ _ _ us hl => match us, hl with | [_, _], _ => rfl
  have F__law_worths := fun_mk (st := s__law_worths) l__law_worths c__law_worths k__law_worths
  have b__law_worths := F__law_worths.binds (ps := ["_law_all_three", "_law_at"]) fun _ _ _ _ _ _ us hl => match us, hl with | [_, _], _ => rfl
  have F_q_less := fun_mk (st := s_q_less) l_q_less c_q_less k_q_less
  have b_q_less := F_q_less.binds (ps := ["one"]) fun _ _ _ _ _ _ us hl => match us, hl with | [_], _ => rfl
  have F_figure_at := fun_mk (st := s_figure_at) l_figure_at c_figure_at k_figure_at
  have b_figure_at := F_figure_at.binds (ps := ["one", "power"]) fun _ _ _ _ _ _ us hl => match us, hl with | [_, _], _ => rfl
  have F_poly := fun_mk (st := s_poly) l_poly c_poly k_poly
  have b_poly := F_poly.binds (ps := ["figures"]) fun _ _ _ _ _ _ us hl => match us, hl with | [_], _ => rfl
  have F_poly_plus := fun_mk (st := s_poly_plus) l_poly_plus c_poly_plus k_poly_plus
  have b_poly_plus := F_poly_plus.binds (ps := ["one", "other"]) fun _ _ _ _ _ _ us hl => match us, hl with | [_, _], _ => rfl
  have F_poly_times := fun_mk (st := s_poly_times) l_poly_times c_poly_times k_poly_times
  have b_poly_times := F_poly_times.binds (ps := ["one", "other"]) fun _ _ _ _ _ _ us hl => match us, hl with | [_, _], _ => rfl
  have F_content := fun_mk (st := s_content) l_content c_content k_content
  have b_content := F_content.binds (ps := ["one"]) fun _ _ _ _ _ _ us hl => match us, hl with | [_], _ => rfl
  have F_parted := fun_mk (st := s_parted) l_parted c_parted k_parted
  have b_parted := F_parted.binds (ps := ["one", "whole"]) fun _ _ _ _ _ _ us hl => match us, hl with | [_, _], _ => rfl
  have F_plain := fun_mk (st := s_plain) l_plain c_plain k_plain
  have b_plain := F_plain.binds (ps := ["one"]) fun _ _ _ _ _ _ us hl => match us, hl with | [_], _ => rfl
  have F_poly_minus := fun_mk (st := s_poly_minus) l_poly_minus c_poly_minus k_poly_minus
  have b_poly_minus := F_poly_minus.binds (ps := ["one", "other"]) fun _ _ _ _ _ _ us hl => match us, hl with | [_, _], _ => rfl
  have F_raised := fun_mk (st := s_raised) l_raised c_raised k_raised
  have b_raised := F_raised.binds (ps := ["one", "power"]) fun _ _ _ _ _ _ us hl => match us, hl with | [_, _], _ => rfl
  have F_scaled := fun_mk (st := s_scaled) l_scaled c_scaled k_scaled
  have b_scaled := F_scaled.binds (ps := ["one", "often"]) fun _ _ _ _ _ _ us hl => match us, hl with | [_, _], _ => rfl
  have F_without_head := fun_mk (st := s_without_head) l_without_head c_without_head k_without_head
  have b_without_head := F_without_head.binds (ps := ["one", "other"]) fun _ _ _ _ _ _ us hl => match us, hl with | [_, _], _ => rfl
  have F_rest_by := fun_mk (st := s_rest_by) l_rest_by c_rest_by k_rest_by
  have b_rest_by := F_rest_by.binds (ps := ["one", "other"]) fun _ _ _ _ _ _ us hl => match us, hl with | [_, _], _ => rfl
  have F_common := fun_mk (st := s_common) l_common c_common k_common
  have b_common := F_common.binds (ps := ["one", "other"]) fun _ _ _ _ _ _ us hl => match us, hl with | [_, _], _ => rfl
  have F_long_division := fun_mk (st := s_long_division) l_long_division c_long_division k_long_division
  have b_long_division := F_long_division.binds (ps := ["one", "other"]) fun _ _ _ _ _ _ us hl => match us, hl with | [_, _], _ => rfl
  have F_without_common := fun_mk (st := s_without_common) l_without_common c_without_common k_without_common
  have b_without_common := F_without_common.binds (ps := ["one", "part"]) fun _ _ _ _ _ _ us hl => match us, hl with | [_, _], _ => rfl
  have F_quotient := fun_mk (st := s_quotient) l_quotient c_quotient k_quotient
  have b_quotient := F_quotient.binds (ps := ["top", "bottom"]) fun _ _ _ _ _ _ us hl => match us, hl with | [_, _], _ => rfl
  have F_q_plus := fun_mk (st := s_q_plus) l_q_plus c_q_plus k_q_plus
  have b_q_plus := F_q_plus.binds (ps := ["one", "other"]) fun _ _ _ _ _ _ us hl => match us, hl with | [_, _], _ => rfl
  have F_q_minus := fun_mk (st := s_q_minus) l_q_minus c_q_minus k_q_minus
  have b_q_minus := F_q_minus.binds (ps := ["one", "other"]) fun _ _ _ _ _ _ us hl => match us, hl with | [_, _], _ => rfl
  have F_q_over := fun_mk (st := s_q_over) l_q_over c_q_over k_q_over
  have b_q_over := F_q_over.binds (ps := ["one", "other"]) fun _ _ _ _ _ _ us hl => match us, hl with | [_, _], _ => rfl
  have F_poly_slope := fun_mk (st := s_poly_slope) l_poly_slope c_poly_slope k_poly_slope
  have b_poly_slope := F_poly_slope.binds (ps := ["one"]) fun _ _ _ _ _ _ us hl => match us, hl with | [_], _ => rfl
  have F_q_slope := fun_mk (st := s_q_slope) l_q_slope c_q_slope k_q_slope
  have b_q_slope := F_q_slope.binds (ps := ["one"]) fun _ _ _ _ _ _ us hl => match us, hl with | [_], _ => rfl
  have F_q_times := fun_mk (st := s_q_times) l_q_times c_q_times k_q_times
  have b_q_times := F_q_times.binds (ps := ["one", "other"]) fun _ _ _ _ _ _ us hl => match us, hl with | [_, _], _ => rfl
  have F_law := fun_mk (st := s_law) l_law c_law k_law
  have b_law := F_law.binds (ps := ["_law_script"]) fun _ _ _ _ _ _ us hl => match us, hl with | [_], _ => rfl
  refine ⟨PySem.W.fnOf "law" "law" (defArgs s_law) (defBody s_law) (defScope s_law) .none kV_law dc_law pm_law an_law cd_law ct_law, sp_law, fun s v => .of_eq rfl, fun ns hn => ⟨ns, rfl, hn, fun _ => rfl⟩, fun base _ _ hsee => ?_⟩
  have V : Env l.prog base := ⟨hsee, htr⟩
  have G__law_many : FnD l.prog w K mg base 33 "_law_many" [] sp_many := ⟨_, _, _, _, _, ok__law_many B V T (TxD.of F__law_many)  (w := w), PySem.W.mg_of X G a__law_many, k__law_many, b__law_many, .nil, fun _ => .nil⟩
  have G__law_draw : FnD l.prog w K mg base 33 "_law_draw" [] sp_draw := ⟨_, _, _, _, _, ok__law_draw B V T (TxD.of F__law_draw)  (w := w), PySem.W.mg_of X G a__law_draw, k__law_draw, b__law_draw, .nil, fun _ => .nil⟩
  have G__law_divisor : FnD l.prog w K mg base 33 "_law_divisor" [] sp_divisor := ⟨_, _, _, _, _, ok__law_divisor B V T (TxD.of F__law_divisor)  (w := w), PySem.W.mg_of X G a__law_divisor, k__law_divisor, b__law_divisor, .nil, fun _ => .nil⟩
  have G__law_low : FnD l.prog w K mg base 34 "_law_low" [] sp_low := ⟨_, _, _, _, _, ok__law_low B V T (TxD.of F__law_low) G__law_divisor (w := w), PySem.W.mg_of X G a__law_low, k__law_low, b__law_low, .nil, fun _ => .nil⟩
  have G__law_whole : FnD l.prog w K mg base 34 "_law_whole" [] sp_whole := ⟨_, _, _, _, _, ok__law_whole B V T (TxD.of F__law_whole) G__law_draw (w := w), PySem.W.mg_of X G a__law_whole, k__law_whole, b__law_whole, .nil, fun _ => .nil⟩
  have G__law_number : FnD l.prog w K mg base 35 "_law_number" [] sp_lnumber := ⟨_, _, _, _, _, ok__law_number B V T (TxD.of F__law_number) G__law_draw G__law_low G__law_whole (w := w), PySem.W.mg_of X G a__law_number, k__law_number, b__law_number, .nil, fun _ => .nil⟩
  have G__law_purse : FnD l.prog w K mg base 33 "_law_purse" [] sp_purse := ⟨_, _, _, _, _, ok__law_purse B V T (TxD.of F__law_purse)  (w := w), PySem.W.mg_of X G a__law_purse, k__law_purse, b__law_purse, .nil, fun _ => .nil⟩
  have G__law_plain : FnD l.prog w K mg base 34 "_law_plain" [] sp_plain := ⟨_, _, _, _, _, ok__law_plain B V T (TxD.of F__law_plain) G__law_divisor (w := w), PySem.W.mg_of X G a__law_plain, k__law_plain, b__law_plain, .nil, fun _ => .nil⟩
  have G__law_cut : FnD l.prog w K mg base 33 "_law_cut" [] sp_cut := ⟨_, _, _, _, _, ok__law_cut B V T (TxD.of F__law_cut)  (w := w), PySem.W.mg_of X G a__law_cut, k__law_cut, b__law_cut, .nil, fun _ => .nil⟩
  have G__law_product : FnD l.prog w K mg base 34 "_law_product" [] sp_lproduct := ⟨_, _, _, _, _, ok__law_product B V T (TxD.of F__law_product) G__law_cut (w := w), PySem.W.mg_of X G a__law_product, k__law_product, b__law_product, .nil, fun _ => .nil⟩
  have G__law_sum : FnD l.prog w K mg base 34 "_law_sum" [] sp_lsum := ⟨_, _, _, _, _, ok__law_sum B V T (TxD.of F__law_sum) G__law_cut (w := w), PySem.W.mg_of X G a__law_sum, k__law_sum, b__law_sum, .nil, fun _ => .nil⟩
  have G__law_left : FnD l.prog w K mg base 35 "_law_left" [] sp_lleft := ⟨_, _, _, _, _, ok__law_left B V T (TxD.of F__law_left) G__law_plain G__law_product G__law_sum (w := w), PySem.W.mg_of X G a__law_left, k__law_left, b__law_left, .nil, fun _ => .nil⟩
  have G__law_common : FnD l.prog w K mg base 36 "_law_common" [] sp_lcommon := ⟨_, _, _, _, _, ok__law_common B V T (TxD.of F__law_common) G__law_left G__law_plain (w := w), PySem.W.mg_of X G a__law_common, k__law_common, b__law_common, .nil, fun _ => .nil⟩
  have G__law_divided : FnD l.prog w K mg base 35 "_law_divided" [] sp_ldivided := ⟨_, _, _, _, _, ok__law_divided B V T (TxD.of F__law_divided) G__law_product G__law_sum (w := w), PySem.W.mg_of X G a__law_divided, k__law_divided, b__law_divided, .nil, fun _ => .nil⟩
  have G__law_form : FnD l.prog w K mg base 37 "_law_form" [] sp_lform := ⟨_, _, _, _, _, ok__law_form B V T (TxD.of F__law_form) G__law_common G__law_divided G__law_divisor (w := w), PySem.W.mg_of X G a__law_form, k__law_form, b__law_form, .nil, fun _ => .nil⟩
  have G__law_poly : FnD l.prog w K mg base 35 "_law_poly" [] sp_lpoly := ⟨_, _, _, _, _, ok__law_poly B V T (TxD.of F__law_poly) G__law_cut G__law_draw G__law_whole (w := w), PySem.W.mg_of X G a__law_poly, k__law_poly, b__law_poly, .nil, fun _ => .nil⟩
  have G__law_quotient : FnD l.prog w K mg base 38 "_law_quotient" [] sp_lquotient := ⟨_, _, _, _, _, ok__law_quotient B V T (TxD.of F__law_quotient) G__law_draw G__law_form G__law_poly (w := w), PySem.W.mg_of X G a__law_quotient, k__law_quotient, b__law_quotient, .nil, fun _ => .nil⟩
  have G_divisor : FnD l.prog w K mg base 33 "divisor" [] sp_divisor := ⟨_, _, _, _, _, ok_divisor B V T (TxD.of F_divisor)  (w := w), PySem.W.mg_of X G a_divisor, k_divisor, b_divisor, .nil, fun _ => .nil⟩
  have o_number := ok_number B V T R_number G_divisor (w := w)
  have G_number : FnD l.prog w K mg base 34 "number" [] (sp_number C) := ⟨_, _, _, _, _, o_number, PySem.W.mg_of X G a_number, k_number, b0_number, v0_number, fun _ => .nil⟩
  have G_number_1 : FnD l.prog w K mg base 34 "number" [.int 1] (sp_number C) := ⟨_, _, _, _, _, o_number, PySem.W.mg_of X G a_number, k_number, b1_number, v1_number, fun _ => .cons (.int _) .nil⟩
  have G_over : FnD l.prog w K mg base 35 "over" [] (sp_over C) := ⟨_, _, _, _, _, ok_over B V T (TxD.of F_over) G_number (w := w), PySem.W.mg_of X G a_over, k_over, b_over, .nil, fun _ => .nil⟩
  have G_plus : FnD l.prog w K mg base 35 "plus" [] (sp_plus C) := ⟨_, _, _, _, _, ok_plus B V T (TxD.of F_plus) G_number (w := w), PySem.W.mg_of X G a_plus, k_plus, b_plus, .nil, fun _ => .nil⟩
  have G_times : FnD l.prog w K mg base 35 "times" [] (sp_times C) := ⟨_, _, _, _, _, ok_times B V T (TxD.of F_times) G_number (w := w), PySem.W.mg_of X G a_times, k_times, b_times, .nil, fun _ => .nil⟩
  have G_worth : FnD l.prog w K mg base 36 "worth" [] (sp_worth C) := ⟨_, _, _, _, _, ok_worth B V T (TxD.of F_worth) G_plus G_times (w := w), PySem.W.mg_of X G a_worth, k_worth, b_worth, .nil, fun _ => .nil⟩
  have G_q_worth : FnD l.prog w K mg base 37 "q_worth" [] (sp_qworth C) := ⟨_, _, _, _, _, ok_q_worth B V T (TxD.of F_q_worth) G_over G_worth (w := w), PySem.W.mg_of X G a_q_worth, k_q_worth, b_q_worth, .nil, fun _ => .nil⟩
  have G__law_worths : FnD l.prog w K mg base 38 "_law_worths" [] (sp_lworths C) := ⟨_, _, _, _, _, ok__law_worths B V T (TxD.of F__law_worths) G_q_worth (w := w), PySem.W.mg_of X G a__law_worths, k__law_worths, b__law_worths, .nil, fun _ => .nil⟩
  have G_q_less : FnD l.prog w K mg base 33 "q_less" [] sp_qless := ⟨_, _, _, _, _, ok_q_less B V T (TxD.of F_q_less)  (w := w), PySem.W.mg_of X G a_q_less, k_q_less, b_q_less, .nil, fun _ => .nil⟩
  have G_figure_at : FnD l.prog w K mg base 33 "figure_at" [] sp_figAt := ⟨_, _, _, _, _, ok_figure_at B V T (TxD.of F_figure_at)  (w := w), PySem.W.mg_of X G a_figure_at, k_figure_at, b_figure_at, .nil, fun _ => .nil⟩
  have G_poly : FnD l.prog w K mg base 33 "poly" [] sp_cut := ⟨_, _, _, _, _, ok_poly B V T (TxD.of F_poly)  (w := w), PySem.W.mg_of X G a_poly, k_poly, b_poly, .nil, fun _ => .nil⟩
  have G_poly_plus : FnD l.prog w K mg base 34 "poly_plus" [] sp_pplus := ⟨_, _, _, _, _, ok_poly_plus B V T (TxD.of F_poly_plus) G_figure_at G_poly (w := w), PySem.W.mg_of X G a_poly_plus, k_poly_plus, b_poly_plus, .nil, fun _ => .nil⟩
  have G_poly_times : FnD l.prog w K mg base 33 "poly_times" [] sp_ptimes := ⟨_, _, _, _, _, ok_poly_times B V T (TxD.of F_poly_times)  (w := w), PySem.W.mg_of X G a_poly_times, k_poly_times, b_poly_times, .nil, fun _ => .nil⟩
  have G_content : FnD l.prog w K mg base 34 "content" [] sp_content := ⟨_, _, _, _, _, ok_content B V T (TxD.of F_content) G_divisor (w := w), PySem.W.mg_of X G a_content, k_content, b_content, .nil, fun _ => .nil⟩
  have G_parted : FnD l.prog w K mg base 33 "parted" [] sp_parted := ⟨_, _, _, _, _, ok_parted B V T (TxD.of F_parted)  (w := w), PySem.W.mg_of X G a_parted, k_parted, b_parted, .nil, fun _ => .nil⟩
  have G_plain : FnD l.prog w K mg base 35 "plain" [] sp_plain := ⟨_, _, _, _, _, ok_plain B V T (TxD.of F_plain) G_content G_parted (w := w), PySem.W.mg_of X G a_plain, k_plain, b_plain, .nil, fun _ => .nil⟩
  have G_poly_minus : FnD l.prog w K mg base 34 "poly_minus" [] sp_pminus := ⟨_, _, _, _, _, ok_poly_minus B V T (TxD.of F_poly_minus) G_figure_at G_poly (w := w), PySem.W.mg_of X G a_poly_minus, k_poly_minus, b_poly_minus, .nil, fun _ => .nil⟩
  have G_raised : FnD l.prog w K mg base 33 "raised" [] sp_raised := ⟨_, _, _, _, _, ok_raised B V T (TxD.of F_raised)  (w := w), PySem.W.mg_of X G a_raised, k_raised, b_raised, .nil, fun _ => .nil⟩
  have G_scaled : FnD l.prog w K mg base 34 "scaled" [] sp_scaled := ⟨_, _, _, _, _, ok_scaled B V T (TxD.of F_scaled) G_poly (w := w), PySem.W.mg_of X G a_scaled, k_scaled, b_scaled, .nil, fun _ => .nil⟩
  have G_without_head : FnD l.prog w K mg base 35 "without_head" [] sp_head := ⟨_, _, _, _, _, ok_without_head B V T (TxD.of F_without_head) G_divisor G_poly_minus G_raised G_scaled (w := w), PySem.W.mg_of X G a_without_head, k_without_head, b_without_head, .nil, fun _ => .nil⟩
  have G_rest_by : FnD l.prog w K mg base 36 "rest_by" [] sp_restBy := ⟨_, _, _, _, _, ok_rest_by B V T (TxD.of F_rest_by) G_without_head (w := w), PySem.W.mg_of X G a_rest_by, k_rest_by, b_rest_by, .nil, fun _ => .nil⟩
  have G_common : FnD l.prog w K mg base 37 "common" [] sp_common := ⟨_, _, _, _, _, ok_common B V T (TxD.of F_common) G_plain G_rest_by (w := w), PySem.W.mg_of X G a_common, k_common, b_common, .nil, fun _ => .nil⟩
  have G_long_division : FnD l.prog w K mg base 36 "long_division" [] (sp_longdiv C) := ⟨_, _, _, _, _, ok_long_division B V T (TxD.of F_long_division) G_content G_divisor G_parted G_poly_plus G_scaled G_without_head (w := w), PySem.W.mg_of X G a_long_division, k_long_division, b_long_division, .nil, fun _ => .nil⟩
  have G_without_common : FnD l.prog w K mg base 37 "without_common" [] (sp_wcommon C) := ⟨_, _, _, _, _, ok_without_common B V T (TxD.of F_without_common) G_long_division (w := w), PySem.W.mg_of X G a_without_common, k_without_common, b_without_common, .nil, fun _ => .nil⟩
  have G_quotient : FnD l.prog w K mg base 38 "quotient" [] (sp_quotient C) := ⟨_, _, _, _, _, ok_quotient B V T (TxD.of F_quotient) G_common G_content G_divisor G_parted G_without_common (w := w), PySem.W.mg_of X G a_quotient, k_quotient, b_quotient, .nil, fun _ => .nil⟩
  have G_q_plus : FnD l.prog w K mg base 39 "q_plus" [] (sp_qplus C) := ⟨_, _, _, _, _, ok_q_plus B V T (TxD.of F_q_plus) G_poly_plus G_poly_times G_quotient (w := w), PySem.W.mg_of X G a_q_plus, k_q_plus, b_q_plus, .nil, fun _ => .nil⟩
  have G_q_minus : FnD l.prog w K mg base 40 "q_minus" [] (sp_qminus C) := ⟨_, _, _, _, _, ok_q_minus B V T (TxD.of F_q_minus) G_q_less G_q_plus (w := w), PySem.W.mg_of X G a_q_minus, k_q_minus, b_q_minus, .nil, fun _ => .nil⟩
  have G_q_over : FnD l.prog w K mg base 39 "q_over" [] (sp_qover C) := ⟨_, _, _, _, _, ok_q_over B V T (TxD.of F_q_over) G_poly_times G_quotient (w := w), PySem.W.mg_of X G a_q_over, k_q_over, b_q_over, .nil, fun _ => .nil⟩
  have G_poly_slope : FnD l.prog w K mg base 33 "poly_slope" [] sp_pslope := ⟨_, _, _, _, _, ok_poly_slope B V T (TxD.of F_poly_slope)  (w := w), PySem.W.mg_of X G a_poly_slope, k_poly_slope, b_poly_slope, .nil, fun _ => .nil⟩
  have G_q_slope : FnD l.prog w K mg base 39 "q_slope" [] (sp_qslope C) := ⟨_, _, _, _, _, ok_q_slope B V T (TxD.of F_q_slope) G_poly_minus G_poly_slope G_poly_times G_quotient (w := w), PySem.W.mg_of X G a_q_slope, k_q_slope, b_q_slope, .nil, fun _ => .nil⟩
  have G_q_times : FnD l.prog w K mg base 39 "q_times" [] (sp_qtimes C) := ⟨_, _, _, _, _, ok_q_times B V T (TxD.of F_q_times) G_poly_times G_quotient (w := w), PySem.W.mg_of X G a_q_times, k_q_times, b_q_times, .nil, fun _ => .nil⟩
  exact ok_law B V T (TxD.of F_law) G__law_many G__law_number G__law_purse G__law_quotient G__law_worths G_plus G_q_minus G_q_over G_q_plus G_q_slope G_q_times G_q_worth G_times
end K12
end DL
end L2
open PySem PySem.W PyProof.Rows
theorem PySem.Challenge.cw_slopeverdict_k12_whole_rules_of_quotient_holds : PySem.Challenge.rw_slopeverdict_k12_whole_rules_of_quotient.Holds := by
  w_on; o_law; k_head; (case hw => w_witness2)
  k_fill
  refine L2.DL.walk_law (l := PySem.Challenge.rw_slopeverdict_k12_whole_rules_of_quotient) (n := 63) (k := 41) (x := "_law_script") rfl (by decide) rfl ⟨rfl, by decide, by decide⟩ (by decide +kernel) (fun w h Y => PySem.W.kIn_of Y) ?F
  case F =>
    intro w mg fa h KX G hmg
    refine' L2.DL.K12.all_mk (l := PySem.Challenge.rw_slopeverdict_k12_whole_rules_of_quotient) rfl KX G hmg ?a_NoNumber ?a_NoPlace ?q_NoNumber ?kp_NoNumber ?sb_NoNumber ?ty_NoNumber ?q_NoPlace ?kp_NoPlace ?sb_NoPlace ?ty_NoPlace ?dn_NoPlace ?w1n_NoPlace ?z_len ?z_abs ?z_max ?z_min ?z_isinstance ?z_int ?z_tuple ?z_list ?z_bool ?z_str ?z_all ?z_any ?z_range ?z_enumerate ?z_reversed ?z_ValueError ?a__law_many ?l__law_many ?c__law_many ?k__law_many ?a__law_draw ?l__law_draw ?c__law_draw ?k__law_draw ?a__law_divisor ?l__law_divisor ?c__law_divisor ?k__law_divisor ?a__law_low ?l__law_low ?c__law_low ?k__law_low ?a__law_whole ?l__law_whole ?c__law_whole ?k__law_whole ?a__law_number ?l__law_number ?c__law_number ?k__law_number ?a__law_purse ?l__law_purse ?c__law_purse ?k__law_purse ?a__law_plain ?l__law_plain ?c__law_plain ?k__law_plain ?a__law_cut ?l__law_cut ?c__law_cut ?k__law_cut ?a__law_product ?l__law_product ?c__law_product ?k__law_product ?a__law_sum ?l__law_sum ?c__law_sum ?k__law_sum ?a__law_left ?l__law_left ?c__law_left ?k__law_left ?a__law_common ?l__law_common ?c__law_common ?k__law_common ?a__law_divided ?l__law_divided ?c__law_divided ?k__law_divided ?a__law_form ?l__law_form ?c__law_form ?k__law_form ?a__law_poly ?l__law_poly ?c__law_poly ?k__law_poly ?a__law_quotient ?l__law_quotient ?c__law_quotient ?k__law_quotient ?a_divisor ?l_divisor ?c_divisor ?k_divisor ?a_number ?l_number ?c_number ?k_number ?d_number ?a_over ?l_over ?c_over ?k_over ?a_plus ?l_plus ?c_plus ?k_plus ?a_times ?l_times ?c_times ?k_times ?a_worth ?l_worth ?c_worth ?k_worth ?a_q_worth ?l_q_worth ?c_q_worth ?k_q_worth ?a__law_worths ?l__law_worths ?c__law_worths ?k__law_worths ?a_q_less ?l_q_less ?c_q_less ?k_q_less ?a_figure_at ?l_figure_at ?c_figure_at ?k_figure_at ?a_poly ?l_poly ?c_poly ?k_poly ?a_poly_plus ?l_poly_plus ?c_poly_plus ?k_poly_plus ?a_poly_times ?l_poly_times ?c_poly_times ?k_poly_times ?a_content ?l_content ?c_content ?k_content ?a_parted ?l_parted ?c_parted ?k_parted ?a_plain ?l_plain ?c_plain ?k_plain ?a_poly_minus ?l_poly_minus ?c_poly_minus ?k_poly_minus ?a_raised ?l_raised ?c_raised ?k_raised ?a_scaled ?l_scaled ?c_scaled ?k_scaled ?a_without_head ?l_without_head ?c_without_head ?k_without_head ?a_rest_by ?l_rest_by ?c_rest_by ?k_rest_by ?a_common ?l_common ?c_common ?k_common ?a_long_division ?l_long_division ?c_long_division ?k_long_division ?a_without_common ?l_without_common ?c_without_common ?k_without_common ?a_quotient ?l_quotient ?c_quotient ?k_quotient ?a_q_plus ?l_q_plus ?c_q_plus ?k_q_plus ?a_q_minus ?l_q_minus ?c_q_minus ?k_q_minus ?a_q_over ?l_q_over ?c_q_over ?k_q_over ?a_poly_slope ?l_poly_slope ?c_poly_slope ?k_poly_slope ?a_q_slope ?l_q_slope ?c_q_slope ?k_q_slope ?a_q_times ?l_q_times ?c_q_times ?k_q_times ?a_law ?l_law ?c_law ?k_law ?a_NOUGHT ?ku_NOUGHT ?ku_NOUGHT_1 ?ku_NOUGHT_0
    (case a_NoNumber => first | k_is | k_exc); (case a_NoPlace => first | k_is | k_exc); (case q_NoNumber => first | k_is | k_exc); (case kp_NoNumber => first | k_is | k_exc); (case sb_NoNumber => first | k_is | k_exc); (case ty_NoNumber => first | k_is | k_exc)
    (case q_NoPlace => first | k_is | k_exc); (case kp_NoPlace => first | k_is | k_exc); (case sb_NoPlace => first | k_is | k_exc); (case ty_NoPlace => first | k_is | k_exc); (case dn_NoPlace => first | k_is | k_exc); (case w1n_NoPlace => first | rfl | k_is)
    (case z_len => first | k_is | k_exc); (case z_abs => first | k_is | k_exc); (case z_max => first | k_is | k_exc); (case z_min => first | k_is | k_exc); (case z_isinstance => first | k_is | k_exc); (case z_int => first | k_is | k_exc)
    (case z_tuple => first | k_is | k_exc); (case z_list => first | k_is | k_exc); (case z_bool => first | k_is | k_exc); (case z_str => first | k_is | k_exc); (case z_all => first | k_is | k_exc); (case z_any => first | k_is | k_exc)
    (case z_range => first | k_is | k_exc); (case z_enumerate => first | k_is | k_exc); (case z_reversed => first | k_is | k_exc); (case z_ValueError => first | k_is | k_exc); (case a__law_many => first | k_is | k_exc); (case l__law_many => first | k_is | k_exc)
    (case c__law_many => first | k_is | k_exc); (case k__law_many => first | k_is | k_exc); (case a__law_draw => first | k_is | k_exc); (case l__law_draw => first | k_is | k_exc); (case c__law_draw => first | k_is | k_exc); (case k__law_draw => first | k_is | k_exc)
    (case a__law_divisor => first | k_is | k_exc); (case l__law_divisor => first | k_is | k_exc); (case c__law_divisor => first | k_is | k_exc); (case k__law_divisor => first | k_is | k_exc); (case a__law_low => first | k_is | k_exc); (case l__law_low => first | k_is | k_exc)
    (case c__law_low => first | k_is | k_exc); (case k__law_low => first | k_is | k_exc); (case a__law_whole => first | k_is | k_exc); (case l__law_whole => first | k_is | k_exc); (case c__law_whole => first | k_is | k_exc); (case k__law_whole => first | k_is | k_exc)
    (case a__law_number => first | k_is | k_exc); (case l__law_number => first | k_is | k_exc); (case c__law_number => first | k_is | k_exc); (case k__law_number => first | k_is | k_exc); (case a__law_purse => first | k_is | k_exc); (case l__law_purse => first | k_is | k_exc)
    (case c__law_purse => first | k_is | k_exc); (case k__law_purse => first | k_is | k_exc); (case a__law_plain => first | k_is | k_exc); (case l__law_plain => first | k_is | k_exc); (case c__law_plain => first | k_is | k_exc); (case k__law_plain => first | k_is | k_exc)
    (case a__law_cut => first | k_is | k_exc); (case l__law_cut => first | k_is | k_exc); (case c__law_cut => first | k_is | k_exc); (case k__law_cut => first | k_is | k_exc); (case a__law_product => first | k_is | k_exc); (case l__law_product => first | k_is | k_exc)
    (case c__law_product => first | k_is | k_exc); (case k__law_product => first | k_is | k_exc); (case a__law_sum => first | k_is | k_exc); (case l__law_sum => first | k_is | k_exc); (case c__law_sum => first | k_is | k_exc); (case k__law_sum => first | k_is | k_exc)
    (case a__law_left => first | k_is | k_exc); (case l__law_left => first | k_is | k_exc); (case c__law_left => first | k_is | k_exc); (case k__law_left => first | k_is | k_exc); (case a__law_common => first | k_is | k_exc); (case l__law_common => first | k_is | k_exc)
    (case c__law_common => first | k_is | k_exc); (case k__law_common => first | k_is | k_exc); (case a__law_divided => first | k_is | k_exc); (case l__law_divided => first | k_is | k_exc); (case c__law_divided => first | k_is | k_exc); (case k__law_divided => first | k_is | k_exc)
    (case a__law_form => first | k_is | k_exc); (case l__law_form => first | k_is | k_exc); (case c__law_form => first | k_is | k_exc); (case k__law_form => first | k_is | k_exc); (case a__law_poly => first | k_is | k_exc); (case l__law_poly => first | k_is | k_exc)
    (case c__law_poly => first | k_is | k_exc); (case k__law_poly => first | k_is | k_exc); (case a__law_quotient => first | k_is | k_exc); (case l__law_quotient => first | k_is | k_exc); (case c__law_quotient => first | k_is | k_exc); (case k__law_quotient => first | k_is | k_exc)
    (case a_divisor => first | k_is | k_exc); (case l_divisor => first | k_is | k_exc); (case c_divisor => first | k_is | k_exc); (case k_divisor => first | k_is | k_exc); (case a_number => first | k_is | k_exc); (case l_number => first | k_is | k_exc)
    (case c_number => first | k_is | k_exc); (case k_number => first | k_is | k_exc); (case d_number => first | k_is | k_exc); (case a_over => first | k_is | k_exc); (case l_over => first | k_is | k_exc); (case c_over => first | k_is | k_exc)
    (case k_over => first | k_is | k_exc); (case a_plus => first | k_is | k_exc); (case l_plus => first | k_is | k_exc); (case c_plus => first | k_is | k_exc); (case k_plus => first | k_is | k_exc); (case a_times => first | k_is | k_exc)
    (case l_times => first | k_is | k_exc); (case c_times => first | k_is | k_exc); (case k_times => first | k_is | k_exc); (case a_worth => first | k_is | k_exc); (case l_worth => first | k_is | k_exc); (case c_worth => first | k_is | k_exc)
    (case k_worth => first | k_is | k_exc); (case a_q_worth => first | k_is | k_exc); (case l_q_worth => first | k_is | k_exc); (case c_q_worth => first | k_is | k_exc); (case k_q_worth => first | k_is | k_exc); (case a__law_worths => first | k_is | k_exc)
    (case l__law_worths => first | k_is | k_exc); (case c__law_worths => first | k_is | k_exc); (case k__law_worths => first | k_is | k_exc); (case a_q_less => first | k_is | k_exc); (case l_q_less => first | k_is | k_exc); (case c_q_less => first | k_is | k_exc)
    (case k_q_less => first | k_is | k_exc); (case a_figure_at => first | k_is | k_exc); (case l_figure_at => first | k_is | k_exc); (case c_figure_at => first | k_is | k_exc); (case k_figure_at => first | k_is | k_exc); (case a_poly => first | k_is | k_exc)
    (case l_poly => first | k_is | k_exc); (case c_poly => first | k_is | k_exc); (case k_poly => first | k_is | k_exc); (case a_poly_plus => first | k_is | k_exc); (case l_poly_plus => first | k_is | k_exc); (case c_poly_plus => first | k_is | k_exc)
    (case k_poly_plus => first | k_is | k_exc); (case a_poly_times => first | k_is | k_exc); (case l_poly_times => first | k_is | k_exc); (case c_poly_times => first | k_is | k_exc); (case k_poly_times => first | k_is | k_exc); (case a_content => first | k_is | k_exc)
    (case l_content => first | k_is | k_exc); (case c_content => first | k_is | k_exc); (case k_content => first | k_is | k_exc); (case a_parted => first | k_is | k_exc); (case l_parted => first | k_is | k_exc); (case c_parted => first | k_is | k_exc)
    (case k_parted => first | k_is | k_exc); (case a_plain => first | k_is | k_exc); (case l_plain => first | k_is | k_exc); (case c_plain => first | k_is | k_exc); (case k_plain => first | k_is | k_exc); (case a_poly_minus => first | k_is | k_exc)
    (case l_poly_minus => first | k_is | k_exc); (case c_poly_minus => first | k_is | k_exc); (case k_poly_minus => first | k_is | k_exc); (case a_raised => first | k_is | k_exc); (case l_raised => first | k_is | k_exc); (case c_raised => first | k_is | k_exc)
    (case k_raised => first | k_is | k_exc); (case a_scaled => first | k_is | k_exc); (case l_scaled => first | k_is | k_exc); (case c_scaled => first | k_is | k_exc); (case k_scaled => first | k_is | k_exc); (case a_without_head => first | k_is | k_exc)
    (case l_without_head => first | k_is | k_exc); (case c_without_head => first | k_is | k_exc); (case k_without_head => first | k_is | k_exc); (case a_rest_by => first | k_is | k_exc); (case l_rest_by => first | k_is | k_exc); (case c_rest_by => first | k_is | k_exc)
    (case k_rest_by => first | k_is | k_exc); (case a_common => first | k_is | k_exc); (case l_common => first | k_is | k_exc); (case c_common => first | k_is | k_exc); (case k_common => first | k_is | k_exc); (case a_long_division => first | k_is | k_exc)
    (case l_long_division => first | k_is | k_exc); (case c_long_division => first | k_is | k_exc); (case k_long_division => first | k_is | k_exc); (case a_without_common => first | k_is | k_exc); (case l_without_common => first | k_is | k_exc); (case c_without_common => first | k_is | k_exc)
    (case k_without_common => first | k_is | k_exc); (case a_quotient => first | k_is | k_exc); (case l_quotient => first | k_is | k_exc); (case c_quotient => first | k_is | k_exc); (case k_quotient => first | k_is | k_exc); (case a_q_plus => first | k_is | k_exc)
    (case l_q_plus => first | k_is | k_exc); (case c_q_plus => first | k_is | k_exc); (case k_q_plus => first | k_is | k_exc); (case a_q_minus => first | k_is | k_exc); (case l_q_minus => first | k_is | k_exc); (case c_q_minus => first | k_is | k_exc)
    (case k_q_minus => first | k_is | k_exc); (case a_q_over => first | k_is | k_exc); (case l_q_over => first | k_is | k_exc); (case c_q_over => first | k_is | k_exc); (case k_q_over => first | k_is | k_exc); (case a_poly_slope => first | k_is | k_exc)
    (case l_poly_slope => first | k_is | k_exc); (case c_poly_slope => first | k_is | k_exc); (case k_poly_slope => first | k_is | k_exc); (case a_q_slope => first | k_is | k_exc); (case l_q_slope => first | k_is | k_exc); (case c_q_slope => first | k_is | k_exc)
    (case k_q_slope => first | k_is | k_exc); (case a_q_times => first | k_is | k_exc); (case l_q_times => first | k_is | k_exc); (case c_q_times => first | k_is | k_exc); (case k_q_times => first | k_is | k_exc); (case a_law => first | k_is | k_exc)
    (case l_law => first | k_is | k_exc); (case c_law => first | k_is | k_exc); (case k_law => first | k_is | k_exc); (case a_NOUGHT => first | k_is | k_exc); (case ku_NOUGHT => first | k_is | k_exc); (case ku_NOUGHT_1 => first | k_is | k_exc)
    (case ku_NOUGHT_0 => first | k_is | k_exc)

